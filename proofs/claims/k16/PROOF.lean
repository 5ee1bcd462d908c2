import PyProof.Rows.All
import Wide.All
import OpenK.AllK
import Wide.FinOn
import PySem.Str
import PyProof.ReprReads
import PyProof.StrBlockL
import KE.SortData
import KE.IntText
import HandS.Head0
import HandS.Head1
import HandS.Head2
import HandS.HeadEnd
import HandS.HeadHook1
import HandS.HeadHook2
import PyProof.ExcBaseAll.ValueError
import PyProof.ExcBaseAll.RuntimeError
import PyProof.ExcBaseAll.LookupError
import PyProof.ExcBaseAll.IndexError
import PyProof.ExcBaseAll.OverflowError
import KE.KExcInit
import HandS.Words
import HandS.ForMost
import HandS.TupAny
import HandS.TupMul
import HandS.Deep
import HandS.IsInst
import HandS.Flow
import HandS.SetKeys
import HandS.DictComp
import HandS.SlotsOwn
import OpenK.KMeth
import KE.KDictKeyed
import HandS.Style
import HandS.Text
import HandS.More
import HandS.Conv
import PyProof.DictUpdate
import KE.KEqNest
import PyProof.NeKinds
import HandS.DictEq
import HandS.DictTup
import HandS.StrMore
import HandS.Replace
import HandS.TupLen
import KE.DataFind
import HandS.CallLocal
import KE.GoesEnum
import KE.GoesMore
import HandS.NoneIn
import HandS.Zip
import HandS.DeepEq
import HandS.FStr
import HandS.Exc
import HandS.SortKw
import KE.KMinKey
import HandS.ExcOwn
import HandS.ExcCtx
import HandS.RaiseMore
import HandS.TryOnly
import HandS.ExcInit
import HandS.TryMany
import HandS.ExcField
import HandS.ExcIs
import KE.KExcIs
import HandS.SuiteRaise
import HandS.RaiseFrom
import HandS.ExcInitHot
import HandS.GenList
import HandS.EndBits
import HandS.Star
import HandS.TupSets
import HandS.Defaults
import PyProof.StrLawsRepr
import PySem.Challenge.RW_scopetables_k16_classes
set_option Elab.async false
set_option linter.all false
set_option maxRecDepth 100000
set_option maxHeartbeats 0
section
namespace Ev
open PySem (Str)
inductive D where
 | non | bl (b:Bool) | int (i:Int) | str (x:Str)
 | tup (xs:List D) | lst (xs:List D)
 | dic (t:Bool) (kvs:List (D×D))
 | ins (c:Nat) (fs:List (Str×D))
 | ref (n:Nat)
 | frl (xs:List D)
 | kd (kvs:List (Str×D))
 | fn (f:Nat)
inductive O where
 | lst (xs:List D) | dic (t:Bool) (kvs:List (D×D)) | ins (c:Nat) (fs:List (Str×D))
def O.d:O→D
 | .lst xs=>.lst xs
 | .dic t k=>.dic t k
 | .ins c f=>.ins c f
instance:Inhabited D:=⟨.non⟩
structure Mm where
 nx:Nat
 m:List (Nat×O)
def lk:List (Nat×O)→Nat→Option O
 | [],_=>none
 | (k,o) :: r,n=>if k=n then some o else lk r n
def jm:List (Nat×O)→Nat→O→List (Nat×O)
 | [],_,_=>[]
 | (k,o) :: r,n,u=>if k=n then (k,u) :: r else (k,o) :: jm r n u
def Mm.get (h:Mm) (n:Nat):Option O:=lk h.m n
def Mm.set (h:Mm) (n:Nat) (o:O):Mm:=⟨h.nx,jm h.m n o⟩
def Mm.new (h:Mm) (o:O):D×Mm:=(.ref h.nx,⟨h.nx + 1,(h.nx,o) :: h.m⟩)
def Mm.nil:Mm:=⟨0,[]⟩
def j4:List (Nat×O)→Nat→List (Nat×O)
 | [],_=>[]
 | (k,o) :: r,n=>if k=n then j4 r n else (k,o) :: j4 r n
def Mm.del (h:Mm) (n:Nat):Mm:=⟨h.nx,j4 h.m n⟩
def Mm.put (h:Mm) (n:Nat) (o:O):Mm:=⟨h.nx,(n,o) :: h.m⟩
abbrev Env:=List (Option D)
def av:Env→Nat→Option D
 | [],_=>none
 | x :: _,0=>x
 | _ :: r,i + 1=>av r i
def ay:Env→Nat→D→Env
 | [],_,_=>[]
 | _ :: r,0,d=>some d :: r
 | x :: r,i + 1,d=>x :: ay r i d
mutual
def aD:D→Bool
 | .non | .bl _ | .int _ | .str _=>true
 | .tup xs | .lst xs | .frl xs=>bI xs
 | .kd _=>true
 | .fn _=>true
 | .dic _ kvs=>eJ kvs
 | .ins _ fs=>dR fs
 | .ref _=>false
def bI:List D→Bool
 | []=>true
 | d :: r=>aD d&&bI r
def eJ:List (D×D)→Bool
 | []=>true
 | (a,b) :: r=>aD a&&aD b&&eJ r
def dR:List (Str×D)→Bool
 | []=>true
 | (_,b) :: r=>aD b&&dR r
end
def bn {α β:Type} (f:α→Option β):List α→Option (List β)
 | []=>some []
 | a :: r=>match f a with
  | some b=>(match bn f r with
   | some s=>some (b :: s)
   | none=>none)
  | none=>none
def frz:Nat→Mm→D→Option D
 | 0,_,d=>bif aD d then some d else none
 | k + 1,h,d=>bif aD d then some d else match d with
  | .tup xs=>(bn (frz k h) xs).map .tup
  | .lst xs=>(bn (frz k h) xs).map .lst
  | .ref n=>match h.get n with
   | some (.lst xs)=>(bn (frz k h) xs).map .lst
   | some (.dic t kvs)=>(bn (fun p:D×D=>(frz k h p.2).map fun y=>(p.1,y)) kvs).map (.dic t)
   | some (.ins c fs)=>(bn (fun p:Str×D=>(frz k h p.2).map fun y=>(p.1,y)) fs).map (.ins c)
   | none=>none
  | _=>none
def b2i (b:Bool):Int:=bif b then 1 else 0
mutual
def bB:D→D→Bool
 | .non,.non=>true
 | .bl a,.bl b=>a == b
 | .bl a,.int j=>decide (b2i a=j)
 | .int i,.bl b=>decide (i=b2i b)
 | .int i,.int j=>decide (i=j)
 | .str x,.str y=>decide (x=y)
 | .tup xs,.tup ys=>lh xs ys
 | .lst xs,.lst ys=>lh xs ys
 | _,_=>false
def lh:List D→List D→Bool
 | [],[]=>true
 | x :: xs,y :: ys=>bB x y&&lh xs ys
 | _,_=>false
end
def dH:List Nat→Bool
 | []=>true
 | c :: r=>Nat.blt c 1114112&&dH r
mutual
def bc:D→Option Nat
 | .non | .bl _ | .int _=>some 0
 | .str x=>bif dH x.cps.toList then some 0 else none
 | .tup xs | .lst xs=>(bO xs).map (· + 1)
 | _=>none
def bO:List D→Option Nat
 | []=>some 0
 | d :: r=>match bc d,bO r with
  | some a,some b=>some (max a b)
  | _,_=>none
end
mutual
def de:D→D→Bool
 | .non,.non=>true
 | .bl a,.bl b=>a == b
 | .int i,.int j=>decide (i=j)
 | .str x,.str y=>decide (x=y)
 | .tup xs,.tup ys=>eT xs ys
 | .lst xs,.lst ys=>eT xs ys
 | .ref a,.ref b=>decide (a=b)
 | .kd xs,.kd ys=>jx xs ys
 | .fn a,.fn b=>decide (a=b)
 | _,_=>false
def jx:List (Str×D)→List (Str×D)→Bool
 | [],[]=>true
 | (a,x) :: xs,(b,y) :: ys=>decide (a=b)&&de x y&&jx xs ys
 | _,_=>false
def eT:List D→List D→Bool
 | [],[]=>true
 | x :: xs,y :: ys=>de x y&&eT xs ys
 | _,_=>false
end
inductive Md | sh | iso | liv
inductive Op | add | sub | mul | fdiv | mod | pow
inductive Cm | eq | ne | lt | le | gt | ge | is | isn | inn | nin
inductive Ty | int | str | bool | tuple | list | dict
inductive Bt | len | abs | max2 | min2 | maxL | sumL | tupleOf | listOf | repr | strOf | intOf | allL | anyL | dictOf | sorted | dictOfT | divmod
inductive Bm | append | extend | extendT | pop | get1 | get2 | setdefault | join | split | update | popD | partition | lstripC | countL | countS | indexS | countT
mutual
inductive E
 | var (i:Nat) | non | bl (b:Bool) | int (i:Int) | str (x:Str)
 | glo (x:Str) (d:D)
 | bin (o:Op) (z:Bool) (a b:E)
 | neg (a:E)
 | cmp (o:Cm) (a b:E)
 | chn (o o':Cm) (a b c:E)
 | and (es:Es) | or (es:Es) | not (c:C)
 | ite (c:C) (a b:E)
 | tup (es:Es) | lst (z:Bool) (es:Es) | dic (z t:Bool) (ks:Ks)
 | fld (o:E) (f:Str)
 | idx (o i:E)
 | sl (z:Bool) (o:E) (lo hi:Es)
 | call (m:Md) (f:Nat) (es:Es)
 | callV (m:Md) (i:Nat) (fs:List Nat) (es:Es)
 | meth (m:Md) (c f:Nat) (x:Str) (o:E) (es:Es)
 | methS (c f:Nat) (x:Str) (o:E) (es:Es)
 | make (m:Md) (c:Nat) (es:Es)
 | blt (b:Bt) (z:Bool) (es:Es)
 | bm (b:Bm) (o:E) (es:Es)
 | isi (e:E) (t:Ty)
 | isi2 (e:E) (ts:List Ty)
 | isiC (e:E) (t:Ty) (cs:List Nat)
 | rev (z:Bool) (e:E)
 | nvr
 | sidx (m:Md) (c f:Nat) (o i:E)
 | sin (neg:Bool) (m:Md) (c f:Nat) (x o:E)
 | seq (m:Md) (c f:Nat) (a b:E)
 | callK (m:Md) (f:Nat) (ks:List Str) (pm:List Nat) (es:Es)
 | methK (m:Md) (c f:Nat) (x:Str) (ks:List Str) (pm:List Nat) (o:E) (es:Es)
 | isiO (e:E) (c:Nat)
 | deq (a b:E)
 | tdq (ng:Bool) (a b:E)
 | bm0 (b:Bm) (o:E)
 | fst (es:Es)
 | fmt (e:E)
 | maxD (e d:E)
 | lstR (e:E)
 | srtS (z:Bool) (e:E)
 | srtI (z:Bool) (e:E)
 | callD (m:Md) (f:Nat) (es:Es) (is:List Int)
 | callM (m:Md) (f:Nat) (es:Es) (ks:List Str) (pm:List Nat) (kes:Es)
 | isiN (e:E) (c:Nat)
 | comp (z:Bool) (own:List Nat) (e:E) (g:T) (it:It) (cs:Cs)
 | cmpD (z:Bool) (own:List Nat) (e:E) (g:T) (it:E) (cs:Cs)
 | lstG (z:Bool) (c f:Nat) (nm:Str) (o:E)
 | comp2 (z:Bool) (own:List Nat) (e:E) (g:T) (it:It) (cs:Cs) (vs1:List Nat) (g1:T) (it1:It) (cs1:Cs)
inductive Es | nil | cons (e:E) (r:Es)
inductive Ks | nil | cons (k v:E) (r:Ks)
inductive C | and (cs:Cs) | or (cs:Cs) | not (c:C) | of (e:E)
inductive Cs | nil | cons (c:C) (r:Cs)
inductive T | var (i:Nat) | tup (ts:Ts) | sub (o i:E) | fld (o:E) (f:Str)
inductive Ts | nil | cons (t:T) (r:Ts)
inductive It | of (e:E) | rng (es:Es) | enm (e:E) | zip (a b:E)
end
mutual
inductive Xe
 | fld (f:Str) | isi (xs:List Str) | var (i:Nat) | str (x:Str) | non | tup (es:Xl) | lst (es:Xl) | ite (c a b:Xe) | and2 (a b:Xe) | or2 (a b:Xe) | not (a:Xe) | and3 (a b c:Xe)
inductive Xl | nil | cons (e:Xe) (r:Xl)
end
inductive Hb | ret (e:Xe) | asg (i:Nat) (e:Xe) (r:Hb)
inductive Hs | nil | cons (c:Nat) (o:Option Nat) (b:Hb) (r:Hs)
mutual
inductive S
 | asg (g:T) (e:E)
 | par (i j:Nat) (a b:E)
 | aug (i:Nat) (o:Op) (e:E)
 | augS (o i:E) (p:Op) (e:E)
 | augF (o:E) (f:Str) (p:Op) (e:E)
 | augL (i:Nat) (e:E)
 | exp (e:E) | ret (e:E) | retN
 | iff (c:C) (a b:Ss) | whl (c:C) (b:Ss) | for_ (g:T) (it:It) (b:Ss)
 | pass | brk | cnt | nvr
 | par3 (i j l:Nat) (a b c:E)
 | forG (c f:Nat) (nm:Str) (o:E) (g:T) (b:Ss)
 | forK (g:T) (e:E) (b:Ss)
 | forD (g:T) (e:E) (b:Ss)
 | setDc (i:Nat) (z t:Bool) (own:List Nat) (k v:E) (g:T) (it:It) (cs:Cs)
 | setDk (i:Nat) (z t:Bool) (own:List Nat) (k v:E) (g:T) (e:E) (cs:Cs)
 | tryT (b:Ss)
 | rai (c:Nat) (m:Str)
 | tryF (e:E) (c:Nat) (i:Nat) (f:Str)
 | raiC (c:Nat) (es:Es)
 | tryC (r:Bool) (e:E) (hs:Hs)
 | repS (i j:Nat) (c z:Str)
 | raiV (c:Nat) (e:E)
 | tryR (e:E) (c o k i:Nat)
inductive Ss | nil | cons (s:S) (r:Ss) | iso (r:Ss)
end
mutual
inductive G | s (s:S) | yld (e:E) | iff (c:C) (a b:Gs) | for_ (g:T) (it:It) (b:Gs)
inductive Gs | nil | cons (s:G) (r:Gs)
end
structure Fn where
 np:Nat
 ns:Nat
 body:Ss
structure Cl where
 init:Nat
 flds:List Str
structure Gn where
 np:Nat
 ns:Nat
 body:Gs
structure Prg where
 fns:Nat→Option Fn
 cls:Nat→Option Cl
 W:Nat
 gns:Nat→Option Gn:=fun _=>none
 xfn:Nat→Bool:=fun _=>false
 xdn:Nat→Bool:=fun _=>false
 xcl:Nat→Option (List Str):=fun _=>none
 xsu:Nat→Nat→Option Bool:=fun _ _=>none
 xis:Nat→Str→Option Bool:=fun _ _=>none
 xhf:Nat→Bool:=fun _=>false
def most:Nat:=16777216
def bj (z:Bool) (o:O) (h:Mm):D×Mm:=bif z then (o.d,h) else h.new o
def bN (h:Mm):D→Option (List D)
 | .tup xs | .lst xs | .frl xs=>some xs
 | .ref n=>match h.get n with
  | some (.lst xs)=>some xs
  | _=>none
 | _=>none
def listOf (h:Mm):D→Option (List D)
 | .lst xs=>some xs
 | .ref n=>match h.get n with
  | some (.lst xs)=>some xs
  | _=>none
 | _=>none
def dictOf (h:Mm):D→Option (Bool×List (D×D))
 | .dic t kvs=>some (t,kvs)
 | .ref n=>match h.get n with
  | some (.dic t kvs)=>some (t,kvs)
  | _=>none
 | _=>none
def aO (h:Mm):D→Option (Nat×List (Str×D))
 | .ins c fs=>some (c,fs)
 | .ref n=>match h.get n with
  | some (.ins c fs)=>some (c,fs)
  | _=>none
 | _=>none
def cu (h:Mm):D→Option Bool
 | .non=>some false
 | .bl b=>some b
 | .int i=>some (i != 0)
 | .str x=>bif Nat.ble x.length most then some ((x.length:Int) != 0) else none
 | d=>match bN h d with
  | some xs=>some (!xs.isEmpty)
  | none=>none
def ixN (n:Nat) (i:Int):Option Nat:=if 0≤i then (if i < n then some i.toNat else none) else if -(n:Int)≤i then some (i + n).toNat else none
def cW:List D→Nat→Option D
 | [],_=>none
 | x :: _,0=>some x
 | _ :: r,i + 1=>cW r i
def jc (xs:List D) (i:Int):Option D:=match ixN xs.length i with
 | some j=>cW xs j
 | none=>none
def il:List Nat→Nat→Option Nat
 | [],_=>none
 | x :: _,0=>some x
 | _ :: r,i + 1=>il r i
def sIx (n d:Nat):Option Int→Nat
 | none=>d
 | some v=>if v < 0 then (v + n).toNat else min v.toNat n
def cut {α:Type} (xs:List α) (lo hi:Option Int):List α:=(xs.drop (sIx xs.length 0 lo)).take (sIx xs.length xs.length hi - sIx xs.length 0 lo)
mutual
def oY:D→Bool
 | .non | .int _ | .str _=>true
 | .tup xs=>im xs
 | _=>false
def im:List D→Bool
 | []=>true
 | d :: r=>oY d&&im r
end
mutual
def mW:D→Nat
 | .tup xs=>gS xs + 1
 | _=>0
def gS:List D→Nat
 | []=>0
 | d :: r=>max (mW d) (gS r)
end
def aR (t:Bool) (k:D):Bool:=match t,k with
 | false,.int _=>true
 | false,.str _=>true
 | true,.tup xs=>im xs&&Nat.ble (gS xs + 1) 7
 | _,_=>false
def bf:List (D×D)→D→Option D
 | [],_=>none
 | (a,b) :: r,k=>bif bB a k then some b else bf r k
def dX:List (D×D)→D→D→List (D×D)
 | [],_,_=>[]
 | (a,b) :: r,k,v=>(a,bif bB a k then v else b) :: dX r k v
def bz (kvs:List (D×D)) (k v:D):List (D×D):=match bf kvs k with
 | some _=>dX kvs k v
 | none=>kvs++[(k,v)]
def aY:List (Str×D)→Str→Option D
 | [],_=>none
 | (a,b) :: r,k=>if a=k then some b else aY r k
def putF:Str→D→List (Str×D)→List (Str×D)
 | k,v,[]=>[(k,v)]
 | k,v,(a,b) :: r=>if a=k then (a,v) :: r else (a,b) :: putF k v r
def w9:Nat:=44
def dh (h:Mm) (d:D):Option D:=match frz w9 h d with
 | some e=>(match bc e with
  | some n=>bif Nat.ble n 60 then some e else none
  | none=>none)
 | none=>none
def cj (i:Int):Bool:=decide (-(2 ^ 64) < i)&&decide (i < 2 ^ 64)
def eA (i:Int):Bool:=decide (-(2 ^ 62)≤i)&&decide (i < 2 ^ 62)
def rep {α:Type}:Nat→List α→List α
 | 0,_=>[]
 | n + 1,xs=>xs++rep n xs
def repS:Nat→Str→Str
 | 0,_=>⟨#[]⟩
 | n + 1,x=>x++repS n x
def u9 (a:Str) (j:Int):Str:=if j < 1 then Str.empty else if (j == 1||a.length == 0)=true then a else ⟨(List.replicate j.toNat a.cps).foldl (·++·) #[]⟩
def cV (o:Op) (z:Bool) (x y:D) (h:Mm):Option (D×Mm):=
 match o,x,y with
 | .add,.int i,.int j=>some (.int (i + j),h)
 | .sub,.int i,.int j=>some (.int (i - j),h)
 | .add,.bl a,.int j=>some (.int (b2i a + j),h)
 | .sub,.bl a,.int j=>some (.int (b2i a - j),h)
 | .mul,.int i,.int j=>bif cj i||cj j then some (.int (i * j),h) else none
 | .fdiv,.int i,.int j=>bif decide (0 < j)&&decide (j < 1073741824) then some (.int (i / j),h) else none
 | .mod,.int i,.int j=>bif decide (0 < j) then some (.int (i % j),h) else none
 | .pow,.int i,.int j=>bif decide (0≤j)&&decide (j≤1000)&&cj i then some (.int (i ^ j.toNat),h) else none
 | .add,.str a,.str b=>bif Nat.ble (a.length + b.length) most then some (.str (a++b),h) else none
 | .add,.tup a,.tup b=>bif Nat.ble (a.length + b.length) most then some (.tup (a++b),h) else none
 | .mul,.tup a,.int j=>bif Nat.ble a.length 1000&&decide (-(2 ^ 62)≤j)&&decide (j≤1000) then some (.tup (rep j.toNat a),h) else none
 | .mul,.str a,.int j=>bif Nat.ble a.length 1000&&decide (0≤j)&&decide (j≤1000) then some (.str (u9 a j),h) else none
 | .add,a,b=>match listOf h a,listOf h b with
  | some a,some b=>bif Nat.ble (a.length + b.length) most then some (bj z (.lst (a++b)) h) else none
  | _,_=>none
 | .mul,a,.int j=>match listOf h a with
  | some a=>bif Nat.ble a.length 1000&&decide (0≤j)&&decide (j≤1000) then some (bj z (.lst (rep j.toNat a)) h) else none
  | _=>none
 | _,_,_=>none
def dr:D→List D→Bool
 | _,[]=>false
 | d,e :: r=>bB e d||dr d r
def mG:List D→List D
 | []=>[]
 | d :: r=>bif dr d r then mG r else d :: mG r
def dj (t:Bool):List (D×D)→List (D×D)→Option (List (D×D))
 | acc,[]=>some acc
 | acc,(k,v) :: r=>bif aR t k&&Nat.ble (acc.length + 1) 1000 then dj t (bz acc k v) r else none
def fw:D→Bool
 | .non | .bl _ | .int _ | .str _=>true
 | _=>false
def iW:D→D→Bool
 | .bl _,.int _ | .int _,.bl _=>false
 | x,y=>fw x&&fw y
def dG:List D→Bool
 | []=>true
 | d :: r=>fw d&&dG r
def jS (c:Nat):List Nat→Bool
 | []=>false
 | d :: r=>decide (c=d)||jS c r
def pS (x y:D) (h:Mm):Option Bool:=match listOf h x,listOf h y with
 | some xs,some ys=>bif Nat.beq xs.length ys.length then none else some false
 | _,_=>none
def jX (x y:D) (h:Mm):Option Bool:=
 bif iW x y then some (bB x y) else match dh h x,dh h y with
  | some a,some b=>some (bB a b)
  | _,_=>pS x y h
def rT (x y:D) (h:Mm):Option Bool:=
 match dictOf h y with
 | some (t,kvs)=>bif aR t x then some (bf kvs x).isSome else none
 | none=>match x,y with
  | .str a,.str b=>(match a.cps.toList with
   | [c]=>some (jS c b.cps.toList)
   | _=>none)
  | x,y=>match bN h y with
   | some ys=>bif fw x&&dG ys then some (dr x ys) else (match dh h x,dh h y with
    | some a,some (.tup bs)=>some (dr a bs)
    | some a,some (.lst bs)=>some (dr a bs)
    | _,_=>none)
   | none=>none
def cmpD (o:Cm) (x y:D) (h:Mm):Option Bool:=
 match o with
 | .eq=>jX x y h
 | .ne=>match jX x y h with
  | some k=>some (!k)
  | none=>none
 | .lt=>match x,y with
  | .int i,.int j=>some (decide (i < j))
  | _,_=>none
 | .le=>match x,y with
  | .int i,.int j=>some (decide (i≤j))
  | _,_=>none
 | .gt=>match x,y with
  | .int i,.int j=>some (decide (j < i))
  | _,_=>none
 | .ge=>match x,y with
  | .int i,.int j=>some (decide (j≤i))
  | _,_=>none
 | .is=>match y,x with
  | .non,.non=>some true
  | .non,_=>some false
  | .bl a,.bl b=>some (a == b)
  | _,_=>none
 | .isn=>match y,x with
  | .non,.non=>some false
  | .non,_=>some true
  | .bl a,.bl b=>some (!(a == b))
  | _,_=>none
 | .inn=>rT x y h
 | .nin=>match rT x y h with
  | some k=>some (!k)
  | none=>none
def df (t:Ty) (x:D) (h:Mm):Option Bool:=
 match x,t with
 | .non,_=>some false
 | .bl _,.int=>some true
 | .bl _,.bool=>some true
 | .bl _,_=>some false
 | .int _,.int=>some true
 | .int _,_=>some false
 | .str _,.str=>some true
 | .str _,_=>some false
 | .tup _,.tuple=>some true
 | .tup _,_=>some false
 | .lst _,.list=>some true
 | .lst _,_=>some false
 | .dic false _,.dict=>some true
 | .dic false _,_=>some false
 | .ref n,t=>match h.get n,t with
  | some (.lst _),.list=>some true
  | some (.lst _),_=>some false
  | some (.dic false _),.dict=>some true
  | some (.dic false _),_=>some false
  | _,_=>none
 | _,_=>none
def vd:List Ty→D→Mm→Option Bool
 | [],_,_=>some false
 | t :: r,x,h=>match df t x h,vd r x h with
  | some a,some b=>some (a||b)
  | _,_=>none
def br (o i:D) (h:Mm):Option D:=
 match o,i with
 | .str x,.int i=>bif Nat.ble x.length most then (match ixN x.length i with
  | some j=>(il x.cps.toList j).map fun c=>.str ⟨#[c]⟩
  | none=>none) else none
 | o,i=>match dictOf h o with
  | some (t,kvs)=>bif aR t i then bf kvs i else none
  | none=>match i,bN h o with
   | .int i,some xs=>jc xs i
   | _,_=>none
def rF (z:Bool) (o:D) (lo hi:Option Int) (h:Mm):Option (D×Mm):=
 match o with
 | .str x=>bif Nat.ble x.length most then some (.str ⟨(cut x.cps.toList lo hi).toArray⟩,h) else none
 | .tup xs=>some (.tup (cut xs lo hi),h)
 | o=>match listOf h o with
  | some xs=>some (bj z (.lst (cut xs lo hi)) h)
  | none=>none
def qr (z:Bool) (o:D) (h:Mm):Option (D×Mm):=
 match o with
 | .tup xs=>some (.tup xs.reverse,h)
 | o=>match listOf h o with
  | some xs=>some (bj z (.lst xs.reverse) h)
  | none=>none
def fu (o i d:D) (h:Mm):Option Mm:=
 match o with
 | .ref n=>match h.get n,i with
  | some (.lst xs),.int i=>(match ixN xs.length i with
   | some j=>some (h.set n (.lst (xs.set j d)))
   | none=>none)
  | some (.dic t kvs),i=>bif aR t i&&Nat.ble (kvs.length + 1) most then some (h.set n (.dic t (bz kvs i d))) else none
  | _,_=>none
 | _=>none
def qV:List D→Option (List Int)
 | []=>some []
 | .int i :: r=>match qV r with
  | some s=>some (i :: s)
  | none=>none
 | _=>none
def rL:List D→Option (List Bool)
 | []=>some []
 | .bl i :: r=>match rL r with
  | some s=>some (i :: s)
  | none=>none
 | _=>none
def vg:Int→List Int→Int
 | m,[]=>m
 | m,i :: r=>vg (if m < i then i else m) r
def mY:List Bool→Bool
 | []=>true
 | b :: r=>b&&mY r
inductive Fl | nx | bk | ct | rt (d:D)
abbrev Fs:=Nat→List D→Mm→Option (D×Mm)
def aU (m:Md) (g:List D→Mm→Option (D×Mm)) (vs:List D) (h:Mm):Option (D×Mm):=
 match m with
 | .sh=>g vs h
 | .iso=>bif bI vs then (match g vs .nil with
  | some (d,h')=>(match frz w9 h' d with
   | some e=>some (e,h)
   | none=>none)
  | none=>none) else none
 | .liv=>bif bI vs then (match g vs .nil with
  | some (.ref n,h')=>(match h'.get n with
   | some o=>bif aD o.d then some (h.new o) else none
   | none=>none)
  | _=>none) else none
mutual
def aw:D→PySem.PyData
 | .non=>.none
 | .bl b=>.bool b
 | .int i=>.int i
 | .str x=>.str x
 | .tup xs=>.tuple (ba xs)
 | .lst xs=>.list (ba xs)
 | _=>.none
def ba:List D→List PySem.PyData
 | []=>[]
 | d :: r=>aw d :: ba r
end
def dC:List D→Option (List (D×D))
 | []=>some []
 | .tup [a,b] :: r=>match dC r with
  | some s=>some ((a,b) :: s)
  | none=>none
 | _=>none
def qZ (xs:List D):Bool:=xs.all (fun x=>aD x&&(match bc x with | some n=>Nat.ble n 60 | none=>false)&&(match x with | .tup (_ :: _)=>true | _=>false))&&xs.all fun a=>xs.all fun b=>PySem.W.alike (aw a) (aw b)
def srtS (xs:List D):Bool:=xs.all fun x=>match x with | .str y=>dH y.cps.toList | _=>false
def wN (xs:List D):Bool:=qZ xs&&xs.all (aR true)&&Nat.ble (mG xs).length 76
def cG (b:Bt) (z:Bool) (vs:List D) (h:Mm):Option (D×Mm):=
 match b,vs with
 | .len,[.str x]=>bif Nat.ble x.length most then some (.int x.length,h) else none
 | .len,[d]=>match bN h d with
  | some xs=>some (.int xs.length,h)
  | none=>match dictOf h d with
   | some (true,kvs)=>some (.int kvs.length,h)
   | _=>none
 | .abs,[.int i]=>some (.int (if i < 0 then -i else i),h)
 | .max2,[.int i,.int j]=>some (.int (if i < j then j else i),h)
 | .min2,[.int i,.int j]=>some (.int (if j < i then j else i),h)
 | .maxL,[d]=>none
 | .sumL,[d]=>none
 | .allL,[d]=>match listOf h d with
  | some xs=>(match rL xs with
   | some r=>some (.bl (mY r),h)
   | _=>none)
  | none=>none
 | .anyL,[d]=>none
 | .tupleOf,[d]=>none
 | .listOf,[d]=>none
 | .dictOf,[d]=>match listOf h d with
  | some xs=>(match dC xs with
   | some ps=>(match dj false [] ps with
    | some kvs=>some (bj z (.dic false kvs) h)
    | none=>(match dj true [] ps with
     | some kvs=>some (bj z (.dic true kvs) h)
     | none=>none))
   | none=>none)
  | none=>none
 | .dictOfT,[d]=>none
 | .divmod,[.int i,.int j]=>none
 | .intOf,[.str x]=>bif Nat.ble x.length 640 then (match PySem.intText? x with
  | some n=>some (.int n,h)
  | none=>none) else none
 | .intOf,[.int i]=>some (.int i,h)
 | .strOf,[.int i]=>none
 | .strOf,[.bl b]=>none
 | .intOf,[.bl b]=>some (.int (b2i b),h)
 | .repr,[.str x]=>bif Nat.ble (aw (.str x)).shown.length most then some (.str (aw (.str x)).shown,h) else none
 | .repr,[.int i]=>bif (aw (.int i)).showable then some (.str (aw (.int i)).shown,h) else none
 | .repr,[.non]=>some (.str (aw .non).shown,h)
 | .repr,[d]=>match dh h d with
  | some (.tup xs)=>bif (aw (.tup xs)).showable&&Nat.ble (aw (.tup xs)).shown.length most then some (.str (aw (.tup xs)).shown,h) else none
  | some (.lst xs)=>bif (aw (.lst xs)).showable&&Nat.ble (aw (.lst xs)).shown.length most then some (.str (aw (.lst xs)).shown,h) else none
  | some (.bl b)=>some (.str (if b then "True" else "False"),h)
  | _=>none
 | .sorted,[d]=>none
 | _,_=>none
def ke:List (D×D)→D→List (D×D)
 | [],_=>[]
 | (a,b) :: r,k=>bif bB a k then ke r k else (a,b) :: ke r k
def jt:List D→Option (List Str)
 | []=>some []
 | .str x :: r=>match jt r with
  | some s=>some (x :: s)
  | none=>none
 | _=>none
def vM (z:Str):List Nat→Str→Bool
 | [],_=>true
 | c :: r,t=>!(((⟨#[c]⟩:Str)) == z)&&Nat.ble (t.length + (t.length + 1) * z.length) most&&vM z r (PySem.Txt.replace t ⟨#[c]⟩ z)
def uE (i j:Nat) (z:Str):List Nat→Env→Str→Env
 | [],env,_=>env
 | c :: r,env,t=>uE i j z r (ay (ay env i (.str ⟨#[c]⟩)) j (.str (PySem.Txt.replace t ⟨#[c]⟩ z))) (PySem.Txt.replace t ⟨#[c]⟩ z)
def nT (b:Bm) (o:D) (vs:List D) (h:Mm):Option (D×Mm):=
 match b,o,vs with
 | .append,.ref n,[d]=>match h.get n with
  | some (.lst xs)=>bif Nat.ble (xs.length + 1) most then some (.non,h.set n (.lst (xs++[d]))) else none
  | _=>none
 | .extend,.ref n,[d]=>none
 | .extendT,.ref n,[.tup ys]=>none
 | .get1,d,[k]=>match dictOf h d with
  | some (t,kvs)=>bif aR t k then some ((bf kvs k).getD .non,h) else none
  | none=>none
 | .setdefault,.ref n,[k,x]=>match h.get n with
  | some (.dic t kvs)=>bif aR t k&&Nat.ble (kvs.length + 1) most then (match bf kvs k with
   | some v=>some (v,h)
   | none=>some (x,h.set n (.dic t (bz kvs k x)))) else none
  | _=>none
 | .split,.str x,[.str y]=>none
 | .get2,.kd kvs,[.str k,x]=>some ((aY kvs k).getD x,h)
 | .get2,d,[k,x]=>match dictOf h d with
  | some (t,kvs)=>bif aR t k then some ((bf kvs k).getD x,h) else none
  | none=>none
 | .pop,.ref n,[]=>none
 | .pop,.ref n,[.int i]=>none
 | .popD,.ref n,[k,d]=>none
 | .join,.str x,[d]=>none
 | .partition,.str x,[.str y]=>none
 | .lstripC,.str x,[.str y]=>none
 | .countS,.str x,[.str y]=>none
 | .indexS,.str x,[.str y]=>none
 | .countL,d,[.str k]=>none
 | .countT,d,[.tup ks]=>none
 | .update,.ref n,[d]=>none
 | _,_,_=>none
def gz (b:Bm) (o:D) (h:Mm):Bool:=
 match b with
 | .append | .extend | .extendT | .pop=>(match o with | .ref n=>(match h.get n with | some (.lst _)=>true | _=>false) | _=>false)
 | .get2=>(dictOf h o).isSome||(match o with | .kd _=>true | _=>false)
 | .get1 | .setdefault | .update | .popD=>(dictOf h o).isSome
 | .countL=>(listOf h o).isSome
 | .countT=>(listOf h o).isSome
 | .join | .split | .partition | .lstripC | .countS | .indexS=>(match o with | .str _=>true | _=>false)
def aI:Env→List Nat→Env
 | env,[]=>env
 | env,i :: r=>(aI env r).set i none
def stay (h:Mm):Option (Nat×List D)→Bool
 | none=>true
 | some (n,xs)=>match h.get n with
  | some (.lst ys)=>eT ys xs
  | _=>false
def fg (h:Mm):D→Option (List D×Option (Nat×List D))
 | .tup xs | .lst xs=>some (xs,none)
 | .ref n=>match h.get n with
  | some (.lst xs)=>some (xs,some (n,xs))
  | _=>none
 | _=>none
def dB:List D→List D→List D
 | x :: xs,y :: ys=>.tup [x,y] :: dB xs ys
 | _,_=>[]
def iX (x:Str):List D:=x.cps.toList.map fun c=>.str ⟨#[c]⟩
def sm (h:Mm):D→Option (List D×Option (Nat×List D))
 | .str x=>some (iX x,none)
 | d=>fg h d
def ph:D→D→Option (List D)
 | .tup xs,.tup ys=>some (dB xs ys)
 | .lst xs,.lst ys=>some (dB xs ys)
 | .lst xs,.tup ys=>some (dB xs ys)
 | _,_=>none
def bq:Nat→Int→Int→List D
 | 0,_,_=>[]
 | n + 1,i,c=>.int i :: bq n (i + c) c
def iG (vs:List D):Option (List D):=
 match vs with
 | [.int j]=>bif eA j then some (bq j.toNat 0 1) else none
 | [.int i,.int j]=>bif eA i&&eA j then some (bq (j - i).toNat i 1) else none
 | [.int i,.int j,.int c]=>bif eA i&&eA j&&decide (c = -1) then some (bq (i - j).toNat i (-1)) else none
 | _=>none
def eL:Nat→List D→List D
 | _,[]=>[]
 | n,x :: r=>.tup [.int n,x] :: eL (n + 1) r
def aQ (st:Mm→Bool) (turn:D→Env→Mm→Option (Fl×Env×Mm)):List D→Env→Mm→Option (Fl×Env×Mm)
 | [],env,h=>bif st h then some (.nx,env,h) else none
 | x :: r,env,h=>bif st h then (match turn x env h with
  | some (.nx,env',h')=>aQ st turn r env' h'
  | some (.ct,env',h')=>aQ st turn r env' h'
  | some (.bk,env',h')=>some (.nx,env',h')
  | some (.rt d,env',h')=>some (.rt d,env',h')
  | none=>none) else none
def iK (c:Env→Mm→Option (Bool×Mm)) (b:Env→Mm→Option (Fl×Env×Mm)):Nat→Env→Mm→Option (Fl×Env×Mm)
 | 0,_,_=>none
 | n + 1,env,h=>match c env h with
  | some (false,h')=>some (.nx,env,h')
  | some (true,h')=>(match b env h' with
   | some (.nx,env',h'')=>iK c b n env' h''
   | some (.ct,env',h'')=>iK c b n env' h''
   | some (.bk,env',h'')=>some (.nx,env',h'')
   | some (.rt d,env',h'')=>some (.rt d,env',h'')
   | none=>none)
  | none=>none
def ft (st:Mm→Bool) (turn:D→Mm→Option (Option D×Mm)):List D→Mm→Option (List D×Mm)
 | [],h=>bif st h then some ([],h) else none
 | x :: r,h=>bif st h then (match turn x h with
  | some (o,h')=>(match ft st turn r h' with
   | some (ys,h'')=>some ((match o with | some y=>y :: ys | none=>ys),h'')
   | none=>none)
  | none=>none) else none
def fQ (t:Bool) (st:Mm→Bool) (turn:D→Mm→Option (Option (D×D)×Mm)):List D→List (D×D)→Mm→Option (List (D×D)×Mm)
 | [],acc,h=>bif st h then some (acc,h) else none
 | x :: r,acc,h=>bif st h then (match turn x h with
  | some (some (k,v),h')=>bif aR t k&&Nat.ble (acc.length + 1) most then fQ t st turn r (bz acc k v) h' else none
  | some (none,h')=>fQ t st turn r acc h'
  | none=>none) else none
def qY (st:Mm→Bool) (turn:D→Mm→Option (List D×Mm)):List D→Mm→Option (List D×Mm)
 | [],h=>bif st h then some ([],h) else none
 | x :: r,h=>bif st h then (match turn x h with
  | some (o,h')=>(match qY st turn r h' with
   | some (ys,h'')=>some (o++ys,h'')
   | none=>none)
  | none=>none) else none
def lL {α:Type} (pm:List Nat) (xs:List α):List α:=pm.filterMap (xs[·]?)
def fP (d:D):Bool:=match bc d with
 | some n=>Nat.ble n 50
 | none=>false
def uQ (kvs ls:List (D×D)):Bool:=Nat.beq kvs.length ls.length&&kvs.all fun p=>match bf ls p.1 with
 | some v=>fP p.2&&fP v&&bB p.2 v
 | none=>false
def yE (x y:D) (h:Mm):Option Bool:=match dictOf h x,dictOf h y with
 | some (false,kvs),some (false,ls)=>bif uQ kvs ls then some true else none
 | _,_=>none
def sE:List (D×D)→List (D×D)→Bool
 | [],[]=>true
 | (k,v) :: r,(k',v') :: r'=>bB k k'&&fP v&&fP v'&&bB v v'&&sE r r'
 | _,_=>false
def yo (ng:Bool) (x y:D) (h:Mm):Option Bool:=match x,y with
 | .tup [x1,x2],.tup [y1,y2]=>(match dictOf h x2,dictOf h y2 with
  | some (true,kvs),some (true,ls)=>bif fP x1&&fP y1&&bB x1 y1&&sE kvs ls then some (!ng) else none
  | _,_=>none)
 | _,_=>none
def qI (kvs:List (D×D)):List D:=kvs.map fun p=>.tup [p.1,p.2]
def zB (ys:List Str):Str:=ys.foldl (·++·) PySem.Str.empty
def yL (x:D) (h:Mm):Option (D×Mm):=match x with
 | .str y=>bif Nat.ble y.length most then some (.str y,h) else none
 | .int i=>bif Nat.blt i.natAbs.log2 1920 then some (.str (PySem.Str.ofString (toString i)),h) else none
 | _=>none
def wl (c:Nat) (x:D) (h:Mm):Option Bool:=match x with
 | .non | .bl _ | .int _ | .str _ | .tup _ | .lst _ | .dic false _=>some false
 | .ins c' _=>bif Nat.beq c c' then some true else none
 | .ref n=>match h.get n with
  | some (.lst _)=>some false
  | some (.dic false _)=>some false
  | some (.ins c' _)=>bif Nat.beq c c' then some true else none
  | _=>none
 | _=>none
def wE (t:Ty) (cs:List Nat) (x:D) (h:Mm):Option Bool:=match x with
 | .ref n=>match h.get n with
  | some (.ins c _)=>bif cs.any (Nat.beq c) then some false else none
  | _=>df t (.ref n) h
 | x=>df t x h
section
variable (P:Prg) (c1 c2:Fs)
mutual
def af:E→Env→Mm→Option (D×Mm)
 | .var i,env,h=>match av env i with
  | some d=>some (d,h)
  | none=>none
 | .non,_,h=>some (.non,h)
 | .bl b,_,h=>some (.bl b,h)
 | .int i,_,h=>some (.int i,h)
 | .str x,_,h=>some (.str x,h)
 | .glo _ d,_,h=>some (d,h)
 | .bin o z a b,env,h=>match af a env h with
  | some (x,h1)=>(match af b env h1 with
   | some (y,h2)=>cV o z x y h2
   | none=>none)
  | none=>none
 | .neg a,env,h=>match af a env h with
  | some (.int i,h1)=>some (.int (-i),h1)
  | _=>none
 | .cmp o a b,env,h=>match af a env h with
  | some (x,h1)=>(match af b env h1 with
   | some (y,h2)=>(match cmpD o x y h2 with
    | some k=>some (.bl k,h2)
    | none=>none)
   | none=>none)
  | none=>none
 | .chn o o' a b c,env,h=>match af a env h with
  | some (x,h1)=>(match af b env h1 with
   | some (y,h2)=>(match cmpD o x y h2 with
    | some true=>(match af c env h2 with
     | some (w,h3)=>(match cmpD o' y w h3 with
      | some k=>some (.bl k,h3)
      | none=>none)
     | none=>none)
    | some false=>some (.bl false,h2)
    | none=>none)
   | none=>none)
  | none=>none
 | .and es,env,h=>eR es env h
 | .or es,env,h=>gG es env h
 | .not a,env,h=>match cv a env h with
  | some (k,h1)=>some (.bl (!k),h1)
  | none=>none
 | .ite c a b,env,h=>match cv c env h with
  | some (true,h1)=>af a env h1
  | some (false,h1)=>af b env h1
  | none=>none
 | .tup es,env,h=>match aB es env h with
  | some (xs,h1)=>bif Nat.ble xs.length most then some (.tup xs,h1) else none
  | none=>none
 | .lst z es,env,h=>match aB es env h with
  | some (xs,h1)=>bif Nat.ble xs.length most then some (bj z (.lst xs) h1) else none
  | none=>none
 | .dic z t ks,env,h=>match nk ks env h with
  | some (ps,h1)=>(match dj t [] ps with
   | some kvs=>some (bj z (.dic t kvs) h1)
   | none=>none)
  | none=>none
 | .fld o f,env,h=>match af o env h with
  | some (x,h1)=>(match aO h1 x with
   | some (c,fs)=>(match P.cls c with
    | some k=>bif k.flds.contains f then (match aY fs f with
     | some d=>some (d,h1)
     | none=>none) else none
    | none=>none)
   | none=>none)
  | none=>none
 | .idx o i,env,h=>match af o env h with
  | some (x,h1)=>(match af i env h1 with
   | some (y,h2)=>(match br x y h2 with
    | some d=>some (d,h2)
    | none=>none)
   | none=>none)
  | none=>none
 | .sl z o lo hi,env,h=>match af o env h with
  | some (x,h1)=>(match j7 lo env h1 with
   | some (l,h2)=>(match j7 hi env h2 with
    | some (u,h3)=>rF z x l u h3
    | none=>none)
   | none=>none)
  | none=>none
 | .call m f es,env,h=>match aB es env h with
  | some (vs,h1)=>aU m (c1 f) vs h1
  | none=>none
 | .callV m i fs es,env,h=>match av env i with
  | some (.fn f)=>bif fs.any (Nat.beq f) then (match aB es env h with
   | some (vs,h1)=>aU m (c1 f) vs h1
   | none=>none) else none
  | _=>none
 | .meth m c f nm o es,env,h=>match af o env h with
  | some (x,h1)=>(match aO h1 x with
   | some (c',fs)=>bif Nat.beq c c'&&(aY fs nm).isNone then (match aB es env h1 with
    | some (vs,h2)=>aU m (c1 f) (x :: vs) h2
    | none=>none) else none
   | none=>none)
  | none=>none
 | .methS c f nm o es,env,h=>match af o env h with
  | some (x,h1)=>(match aO h1 x with
   | some (c',fs)=>bif Nat.beq c c'&&(aY fs nm).isNone then (match aB es env h1 with
    | some (vs,h2)=>bif Nat.ble vs.length most then c1 f [x,.tup vs] h2 else none
    | none=>none) else none
   | none=>none)
  | none=>none
 | .make m c es,env,h=>match aB es env h with
  | some (vs,h1)=>aU m (fun vs h=>match P.cls c with
   | some k=>(match c2 k.init (.ref h.nx :: vs) (h.new (.ins c [])).2 with
    | some (.non,h2)=>some (.ref h.nx,h2)
    | _=>none)
   | none=>none) vs h1
  | none=>none
 | .blt b z es,env,h=>match aB es env h with
  | some (vs,h1)=>cG b z vs h1
  | none=>none
 | .lstG z c f nm o,env,h=>match af o env h with
  | some (x,h1)=>(match aO h1 x with
   | some (c',fs)=>bif Nat.beq c c'&&(aY fs nm).isNone then (match c2 (6000 + f) [x] h1 with
    | some (.tup xs,h2)=>bif Nat.ble xs.length most then some (bj z (.lst xs) h2) else none
    | _=>none) else none
   | none=>none)
  | none=>none
 | .bm b o es,env,h=>match af o env h with
  | some (x,h1)=>bif gz b x h1 then (match aB es env h1 with
   | some (vs,h2)=>nT b x vs h2
   | none=>none) else none
  | none=>none
 | .isi e t,env,h=>match af e env h with
  | some (x,h1)=>(match df t x h1 with
   | some k=>some (.bl k,h1)
   | none=>none)
  | none=>none
 | .isiC e t cs,env,h=>match af e env h with
  | some (x,h1)=>(match wE t cs x h1 with
   | some k=>some (.bl k,h1)
   | none=>none)
  | none=>none
 | .isi2 e ts,env,h=>match af e env h with
  | some (x,h1)=>(match vd ts x h1 with
   | some k=>some (.bl k,h1)
   | none=>none)
  | none=>none
 | .rev z e,env,h=>match af e env h with
  | some (x,h1)=>qr z x h1
  | none=>none
 | .nvr,_,_=>none
 | .sidx m c f o i,env,h=>match af o env h with
  | some (x,h1)=>(match af i env h1 with
   | some (y,h2)=>(match aO h2 x with
    | some (c',_)=>bif Nat.beq c c' then aU m (c2 f) [x,y] h2 else none
    | none=>none)
   | none=>none)
  | none=>none
 | .sin neg m c f x o,env,h=>match af x env h with
  | some (y,h1)=>(match af o env h1 with
   | some (w,h2)=>(match aO h2 w with
    | some (c',_)=>bif Nat.beq c c' then (match aU m (c1 f) [w,y] h2 with
     | some (.bl k,h3)=>some (.bl (bif neg then !k else k),h3)
     | _=>none) else none
    | none=>none)
   | none=>none)
  | none=>none
 | .seq m c f a b,env,h=>match af a env h with
  | some (x,h1)=>(match af b env h1 with
   | some (y,h2)=>(match aO h2 x,aO h2 y with
    | some (c',_),some (c'',_)=>bif Nat.beq c c'&&Nat.beq c c'' then (match aU m (c1 f) [x,y] h2 with
     | some (.bl k,h3)=>some (.bl k,h3)
     | _=>none) else none
    | _,_=>none)
   | none=>none)
  | none=>none
 | .callK m f ks pm es,env,h=>match aB es env h with
  | some (vs,h1)=>aU m (c1 f) (lL pm vs) h1
  | none=>none
 | .methK m c f nm ks pm o es,env,h=>match af o env h with
  | some (x,h1)=>(match aO h1 x with
   | some (c',fs)=>bif Nat.beq c c'&&(aY fs nm).isNone then (match aB es env h1 with
    | some (vs,h2)=>aU m (c1 f) (x :: lL pm vs) h2
    | none=>none) else none
   | none=>none)
  | none=>none
 | .isiO e c,env,h=>match af e env h with
  | some (x,h1)=>(match aO h1 x with
   | some (c',_)=>bif Nat.beq c c' then some (.bl true,h1) else none
   | none=>none)
  | none=>none
 | .deq a b,env,h=>match af a env h with
  | some (x,h1)=>(match af b env h1 with
   | some (y,h2)=>(match yE x y h2 with
    | some k=>some (.bl k,h2)
    | none=>none)
   | none=>none)
  | none=>none
 | .tdq ng a b,env,h=>match af a env h with
  | some (x,h1)=>(match af b env h1 with
   | some (y,h2)=>(match yo ng x y h2 with
    | some k=>some (.bl k,h2)
    | none=>none)
   | none=>none)
  | none=>none
 | .srtI z e,env,h=>match af e env h with
  | some (d,h1)=>(match dictOf h1 d with
   | some (true,kvs)=>bif qZ (qI kvs)&&(qI kvs).all oY&&Nat.ble kvs.length 100000 then some (bj z (.lst ((qI kvs).mergeSort (PySem.W.dataLe false aw))) h1) else none
   | _=>none)
  | none=>none
 | .bm0 b o,env,h=>match af o env h with
  | some (x,h1)=>bif gz b x h1 then nT b x [] h1 else none
  | none=>none
 | .fst es,env,h=>match aB es env h with
  | some (xs,h1)=>(match jt xs with
   | some ys=>bif Nat.ble (ys.map (·.length)).sum most then some (.str (zB ys),h1) else none
   | none=>none)
  | none=>none
 | .fmt e,env,h=>match af e env h with
  | some (x,h1)=>yL x h1
  | none=>none
 | .maxD e d,env,h=>match af e env h with
  | some (x,h1)=>(match af d env h1 with
   | some (.int j,h2)=>(match listOf h2 x with
    | some xs=>(match qV xs with
     | some []=>some (.int j,h2)
     | some (i :: r)=>some (.int (vg i r),h2)
     | none=>none)
    | none=>none)
   | _=>none)
  | none=>none
 | .lstR e,env,h=>match af e env h with
  | some (.int j,h1)=>bif eA j&&Nat.ble j.toNat most then some (.lst (bq j.toNat 0 1),h1) else none
  | _=>none
 | .srtS z e,env,h=>match af e env h with
  | some (d,h1)=>(match listOf h1 d with
   | some xs=>bif wN xs then some (bj z (.lst ((mG xs).mergeSort (PySem.W.dataLe false aw))) h1) else none
   | none=>none)
  | none=>none
 | .callD m f es is,env,h=>match aB es env h with
  | some (vs,h1)=>aU m (c1 f) (vs++is.map D.int) h1
  | none=>none
 | .callM m f es ks pm kes,env,h=>match aB es env h with
  | some (vs,h1)=>(match aB kes env h1 with
   | some (ws,h2)=>aU m (c1 f) (vs++lL pm ws) h2
   | none=>none)
  | none=>none
 | .isiN e c,env,h=>match af e env h with
  | some (x,h1)=>(match wl c x h1 with
   | some k=>some (.bl k,h1)
   | none=>none)
  | none=>none
 | .comp z own e g it cs,env,h=>match cy it env h with
  | some (xs,w,h1)=>(match ft (fun h=>stay h w) (fun x h=>match asg g x (aI env own) h with
    | some (env2,h2)=>(match bC cs env2 h2 with
     | some (true,h3)=>(match af e env2 h3 with
      | some (y,h4)=>some (some y,h4)
      | none=>none)
     | some (false,h3)=>some (none,h3)
     | none=>none)
    | none=>none) xs h1 with
   | some (ys,h2)=>bif Nat.ble xs.length most then some (bj z (.lst ys) h2) else none
   | none=>none)
  | none=>none
 | .cmpD z own e g it cs,env,h=>match af it env h with
  | some (.dic _ kvs,h1)=>(match ft (fun h=>stay h none) (fun x h=>match asg g x (aI env own) h with
    | some (env2,h2)=>(match bC cs env2 h2 with
     | some (true,h3)=>(match af e env2 h3 with
      | some (y,h4)=>some (some y,h4)
      | none=>none)
     | some (false,h3)=>some (none,h3)
     | none=>none)
    | none=>none) (kvs.map (·.1)) h1 with
   | some (ys,h2)=>bif Nat.ble (kvs.map (·.1)).length most then some (bj z (.lst ys) h2) else none
   | none=>none)
  | _=>none
 | .comp2 z own e g it cs vs1 g1 it1 cs1,env,h=>match cy it env h with
  | some (xs,w,h1)=>(match qY (fun h=>stay h w) (fun x h=>match asg g x (aI env own) h with
    | some (env2,h2)=>(match bC cs env2 h2 with
     | some (true,h3)=>(match cy it1 env2 h3 with
      | some (xs1,w1,h4)=>ft (fun h=>stay h w1) (fun y h=>match asg g1 y (aI env2 vs1) h with
       | some (env3,h5)=>(match bC cs1 env3 h5 with
        | some (true,h6)=>(match af e env3 h6 with
         | some (v,h7)=>some (some v,h7)
         | none=>none)
        | some (false,h6)=>some (none,h6)
        | none=>none)
       | none=>none) xs1 h4
      | none=>none)
     | some (false,h3)=>some ([],h3)
     | none=>none)
    | none=>none) xs h1 with
   | some (ys,h2)=>bif Nat.ble ys.length most then some (bj z (.lst ys) h2) else none
   | none=>none)
  | none=>none
def cv:C→Env→Mm→Option (Bool×Mm)
 | .and es,env,h=>bC es env h
 | .or es,env,h=>eE es env h
 | .not a,env,h=>match cv a env h with
  | some (k,h1)=>some (!k,h1)
  | none=>none
 | .of e,env,h=>match af e env h with
  | some (d,h1)=>(match cu h1 d with
   | some k=>some (k,h1)
   | none=>none)
  | none=>none
def aB:Es→Env→Mm→Option (List D×Mm)
 | .nil,_,h=>some ([],h)
 | .cons e r,env,h=>match af e env h with
  | some (d,h1)=>(match aB r env h1 with
   | some (ds,h2)=>some (d :: ds,h2)
   | none=>none)
  | none=>none
def nk:Ks→Env→Mm→Option (List (D×D)×Mm)
 | .nil,_,h=>some ([],h)
 | .cons e e' r,env,h=>match af e env h with
  | some (k,h1)=>(match af e' env h1 with
   | some (v,h2)=>(match nk r env h2 with
    | some (ps,h3)=>some ((k,v) :: ps,h3)
    | none=>none)
   | none=>none)
  | none=>none
def eR:Es→Env→Mm→Option (D×Mm)
 | .nil,_,_=>none
 | .cons e r,env,h=>match af e env h with
  | some (d,h1)=>(match r with
   | .nil=>some (d,h1)
   | .cons _ _=>(match cu h1 d with
    | some true=>eR r env h1
    | some false=>some (d,h1)
    | none=>none))
  | none=>none
def gG:Es→Env→Mm→Option (D×Mm)
 | .nil,_,_=>none
 | .cons e r,env,h=>match af e env h with
  | some (d,h1)=>(match r with
   | .nil=>some (d,h1)
   | .cons _ _=>(match cu h1 d with
    | some false=>gG r env h1
    | some true=>some (d,h1)
    | none=>none))
  | none=>none
def bC:Cs→Env→Mm→Option (Bool×Mm)
 | .nil,_,h=>some (true,h)
 | .cons e r,env,h=>match cv e env h with
  | some (true,h1)=>bC r env h1
  | some (false,h1)=>some (false,h1)
  | none=>none
def eE:Cs→Env→Mm→Option (Bool×Mm)
 | .nil,_,h=>some (false,h)
 | .cons e r,env,h=>match cv e env h with
  | some (false,h1)=>eE r env h1
  | some (true,h1)=>some (true,h1)
  | none=>none
def j7:Es→Env→Mm→Option (Option Int×Mm)
 | .nil,_,h=>some (none,h)
 | .cons e _,env,h=>match af e env h with
  | some (.int i,h1)=>some (some i,h1)
  | _=>none
def asg:T→D→Env→Mm→Option (Env×Mm)
 | .var i,d,env,h=>some (ay env i d,h)
 | .tup ts,d,env,h=>match d with
  | .tup xs=>bU ts xs env h
  | .lst xs=>bU ts xs env h
  | .ref n=>(match h.get n with
   | some (.lst xs)=>bU ts xs env h
   | _=>none)
  | _=>none
 | .sub o i,d,env,h=>match af o env h with
  | some (x,h1)=>(match af i env h1 with
   | some (y,h2)=>(match fu x y d h2 with
    | some h3=>some (env,h3)
    | none=>none)
   | none=>none)
  | none=>none
 | .fld o f,d,env,h=>match af o env h with
  | some (.ref n,h1)=>(match h1.get n with
   | some (.ins c fs)=>(match P.cls c with
    | some k=>bif k.flds.contains f&&Nat.ble fs.length 900 then some (env,h1.set n (.ins c (putF f d fs))) else none
    | none=>none)
   | _=>none)
  | _=>none
def bU:Ts→List D→Env→Mm→Option (Env×Mm)
 | .nil,[],env,h=>some (env,h)
 | .cons t r,d :: ds,env,h=>match asg t d env h with
  | some (env1,h1)=>bU r ds env1 h1
  | none=>none
 | _,_,_,_=>none
def cy:It→Env→Mm→Option (List D×Option (Nat×List D)×Mm)
 | .of e,env,h=>match af e env h with
  | some (d,h1)=>(match sm h1 d with
   | some (xs,w)=>some (xs,w,h1)
   | none=>none)
  | none=>none
 | .rng es,env,h=>match aB es env h with
  | some (vs,h1)=>(match iG vs with
   | some xs=>some (xs,none,h1)
   | none=>none)
  | none=>none
 | .enm e,env,h=>match af e env h with
  | some (d,h1)=>(match fg h1 d with
   | some (xs,w)=>some (eL 0 xs,w,h1)
   | none=>none)
  | none=>none
 | .zip a b,env,h=>match af a env h with
  | some (x,h1)=>(match af b env h1 with
   | some (y,h2)=>(match ph x y with
    | some xs=>some (xs,none,h2)
    | none=>none)
   | none=>none)
  | none=>none
end
abbrev aP:=Nat×List (Str×D)×Mm
def cE (m:Md) (g:List D→Mm→Option aP) (vs:List D) (h:Mm):Option aP:=
 match m with
 | .sh=>g vs h
 | _=>bif bI vs then (match g vs .nil with
  | some (c,fs,_)=>bif dR fs then some (c,fs,h) else none
  | none=>none) else none
def orR (n:Bool) (a b:Option aP):Option aP:=bif n then b else a
def bu:Option (D×Mm)→Option aP
 | some (.ins c fs,h)=>some (c,fs,h)
 | _=>none
def hJ (st:Mm→Bool) (turn:D→Mm→Option (Option D×Mm)) (tx:D→Mm→Option aP):List D→Mm→Option aP
 | [],_=>none
 | x :: r,h=>bif st h then (match turn x h with
  | some (_,h1)=>hJ st turn tx r h1
  | none=>tx x h) else none
def iO (c:Env→Mm→Option (Bool×Mm)) (b:Env→Mm→Option (Fl×Env×Mm)) (tx:Env→Mm→Option aP):Nat→Env→Mm→Option aP
 | 0,_,_=>none
 | n + 1,env,h=>match c env h with
  | some (true,h')=>(match b env h' with
   | some (.nx,env',h'')=>iO c b tx n env' h''
   | some (.ct,env',h'')=>iO c b tx n env' h''
   | some _=>none
   | none=>tx env h')
  | _=>none
def gr (st:Mm→Bool) (turn:D→Env→Mm→Option (Fl×Env×Mm)) (tx:D→Env→Mm→Option aP):List D→Env→Mm→Option aP
 | [],_,_=>none
 | x :: r,env,h=>bif st h then (match turn x env h with
  | some (.nx,env1,h1)=>gr st turn tx r env1 h1
  | some (.ct,env1,h1)=>gr st turn tx r env1 h1
  | some _=>none
  | none=>tx x env h) else none
mutual
def bh:Bool→E→Env→Mm→Option aP
 | b,.call m f es,env,h=>bif P.xfn f then orR (aB P c1 c2 es env h).isSome (eG b es env h) (match aB P c1 c2 es env h with
   | some (vs,h1)=>cE m (fun vs h=>bu (c1 (10000 + f) vs h)) vs h1
   | none=>none) else none
 | _,.callM m f es ks pm kes,env,h=>bif P.xdn f then (match aB P c1 c2 es env h with
   | some (vs,h1)=>(match aB P c1 c2 kes env h1 with
    | some (ws,h2)=>cE m (fun vs h=>bu (c1 (10000 + f) vs h)) (vs++lL pm ws) h2
    | none=>none)
   | none=>none) else none
 | _,.make m c es,env,h=>match aB P c1 c2 es env h with
   | some (vs,h1)=>cE m (fun vs h=>match P.cls c with
    | some k=>bu (c2 (10000 + k.init) (.ref h.nx :: vs) (h.new (.ins c [])).2)
    | none=>none) vs h1
   | none=>none
 | b,.fld o f,env,h=>bh b o env h
 | b,.isi e t,env,h=>bh b e env h
 | b,.ite (.of c) x y,env,h=>orR (cv P c1 c2 (.of c) env h).isSome (bh b c env h) (match cv P c1 c2 (.of c) env h with
   | some (true,h1)=>bh b x env h1
   | some (false,h1)=>bh b y env h1
   | none=>none)
 | b,.meth m c f nm o es,env,h=>orR (af P c1 c2 o env h).isSome (bh b o env h) (orR (match af P c1 c2 o env h with
  | some (_,h1)=>(aB P c1 c2 es env h1).isSome
  | none=>false) (match af P c1 c2 o env h with
  | some (x,h1)=>(match aO h1 x with
   | some (c',gs)=>bif Nat.beq c c'&&(aY gs nm).isNone then eG b es env h1 else none
   | none=>none)
  | none=>none) (match af P c1 c2 o env h with
   | some (x,h1)=>(match aO h1 x with
    | some (c',gs)=>bif Nat.beq c c'&&(aY gs nm).isNone then (match aB P c1 c2 es env h1 with
     | some (vs,h2)=>cE m (fun vs h=>bu (c1 (10000 + f) vs h)) (x :: vs) h2
     | none=>none) else none
    | none=>none)
   | none=>none))
 | b,.tup es,env,h=>eG b es env h
 | b,.lst _ es,env,h=>eG b es env h
 | b,.bm bb o es,env,h=>match af P c1 c2 o env h with
  | some (x,h1)=>bif gz bb x h1 then eG b es env h1 else none
  | none=>none
 | b,.comp _ own e g it cs,env,h=>bif b then (match cy P c1 c2 it env h with
  | some (xs,w,h1)=>bif Nat.ble xs.length most then hJ (fun h=>stay h w) (fun x h=>match asg P c1 c2 g x (aI env own) h with
    | some (env2,h2)=>(match bC P c1 c2 cs env2 h2 with
     | some (true,h3)=>(match af P c1 c2 e env2 h3 with
      | some (y,h4)=>some (some y,h4)
      | none=>none)
     | some (false,h3)=>some (none,h3)
     | none=>none)
    | none=>none) (fun x h=>match asg P c1 c2 g x (aI env own) h with
    | some (env2,h2)=>(match bC P c1 c2 cs env2 h2 with
     | some (true,h3)=>bh false e env2 h3
     | _=>none)
    | none=>none) xs h1 else none
  | none=>none) else none
 | _,_,_,_=>none
def eG:Bool→Es→Env→Mm→Option aP
 | _,.nil,_,_=>none
 | b,.cons e r,env,h=>orR (af P c1 c2 e env h).isSome (bh b e env h) (match af P c1 c2 e env h with
  | some (_,h1)=>eG b r env h1
  | none=>none)
end
mutual
def e9:E→Env→Mm→Option aP
 | .call m f es,env,h=>orR (aB P c1 c2 es env h).isSome (mQ es env h) (bif P.xhf f then (match aB P c1 c2 es env h with
   | some (vs,h1)=>cE m (fun vs h=>bu (c1 (20000 + f) vs h)) vs h1
   | none=>none) else none)
 | .meth _ _ _ _ o _,env,h=>e9 o env h
 | _,_,_=>none
def mQ:Es→Env→Mm→Option aP
 | .nil,_,_=>none
 | .cons e r,env,h=>orR (af P c1 c2 e env h).isSome (e9 e env h) (match af P c1 c2 e env h with
  | some (_,h1)=>mQ r env h1
  | none=>none)
end
section
variable (c:Nat) (fs:List (Str×D))
def xN (P:Prg) (c:Nat):List Str→Option Bool
 | []=>some false
 | x :: r=>match P.xis c x,xN P c r with
  | some a,some b=>some (a||b)
  | _,_=>none
mutual
def dQ:Xe→Env→Option D
 | .fld f,_=>match P.xcl c with
  | some fl=>bif fl.contains f then aY fs f else none
  | none=>none
 | .isi xs,_=>bif xs.isEmpty then none else (xN P c xs).map .bl
 | .var i,env=>av env i
 | .str x,_=>some (.str x)
 | .non,_=>some .non
 | .tup es,env=>match o8 es env with
  | some ds=>bif Nat.ble ds.length most then some (.tup ds) else none
  | none=>none
 | .lst es,env=>match o8 es env with
  | some ds=>bif Nat.ble ds.length most then some (.lst ds) else none
  | none=>none
 | .ite t a b,env=>match dQ t env with
  | some (.bl true)=>dQ a env
  | some (.bl false)=>dQ b env
  | _=>none
 | .and2 a b,env=>match dQ a env with
  | some (.bl true)=>dQ b env
  | some (.bl false)=>some (.bl false)
  | _=>none
 | .and3 a b d,env=>match dQ a env with
  | some (.bl true)=>(match dQ b env with
   | some (.bl true)=>dQ d env
   | some (.bl false)=>some (.bl false)
   | _=>none)
  | some (.bl false)=>some (.bl false)
  | _=>none
 | .or2 a b,env=>match dQ a env with
  | some (.bl true)=>some (.bl true)
  | some (.bl false)=>dQ b env
  | _=>none
 | .not a,env=>match dQ a env with
  | some (.bl k)=>some (.bl (!k))
  | _=>none
def o8:Xl→Env→Option (List D)
 | .nil,_=>some []
 | .cons e r,env=>match dQ e env,o8 r env with
  | some d,some ds=>some (d :: ds)
  | _,_=>none
end
def uU:Hb→Env→Option (D×Env)
 | .ret e,env=>(dQ P c fs e env).map fun d=>(d,env)
 | .asg i e r,env=>match dQ P c fs e env with
  | some d=>uU r (ay env i d)
  | none=>none
def qc:Hs→Env→Option (D×Env)
 | .nil,_=>none
 | .cons k o b r,env=>match P.xsu c k with
  | some true=>bif (match o with | none=>true | some i=>(av env i).isNone&&Nat.blt i env.length) then uU P c fs b env else none
  | some false=>qc r env
  | none=>none
end
mutual
def cb:S→Env→Mm→Option (Fl×Env×Mm)
 | .asg g e,env,h=>match af P c1 c2 e env h with
  | some (d,h1)=>(match asg P c1 c2 g d env h1 with
   | some (env1,h2)=>some (.nx,env1,h2)
   | none=>none)
  | none=>none
 | .par i j a b,env,h=>match af P c1 c2 a env h with
  | some (x,h1)=>(match af P c1 c2 b env h1 with
   | some (y,h2)=>some (.nx,ay (ay env i x) j y,h2)
   | none=>none)
  | none=>none
 | .aug i o e,env,h=>match av env i with
  | some x=>(match af P c1 c2 e env h with
   | some (y,h1)=>(match x,y,cV o false x y h1 with
    | .int _,.int _,some (r,h2)=>some (.nx,ay env i r,h2)
    | _,_,_=>none)
   | none=>none)
  | none=>none
 | .augS o i p e,env,h=>match af P c1 c2 o env h with
  | some (x,h1)=>(match af P c1 c2 i env h1 with
   | some (y,h2)=>(match (bif (dictOf h2 x).isSome||(listOf h2 x).isSome then br x y h2 else none) with
    | some v=>(match af P c1 c2 e env h2 with
     | some (u,h3)=>(match v,u,cV p false v u h3 with
      | .int _,.int _,some (r,h4)=>(match fu x y r h4 with
       | some h5=>some (.nx,env,h5)
       | none=>none)
      | _,_,_=>none)
     | none=>none)
    | none=>none)
   | none=>none)
  | none=>none
 | .augL i e,env,h=>match av env i with
  | some (.ref k)=>(match af P c1 c2 e env h with
   | some (y,h1)=>(match h1.get k,listOf h1 y with
    | some (.lst xs),some ys=>bif Nat.ble (xs.length + ys.length) most&&(match y with | .ref j=>!(Nat.beq j k) | _=>true) then some (.nx,env,h1.set k (.lst (xs++ys))) else none
    | _,_=>none)
   | none=>none)
  | _=>none
 | .augF o f p e,env,h=>match af P c1 c2 o env h with
  | some (.ref n,h1)=>(match h1.get n with
   | some (.ins c fs)=>(match P.cls c with
    | some k=>bif k.flds.contains f then (match aY fs f with
     | some v=>(match af P c1 c2 e env h1 with
      | some (u,h2)=>(match v,u,cV p false v u h2 with
       | .int _,.int _,some (r,h3)=>(match h3.get n with
        | some (.ins c' fs')=>bif Nat.beq c c'&&Nat.ble fs'.length 900 then some (.nx,env,h3.set n (.ins c (putF f r fs'))) else none
        | _=>none)
       | _,_,_=>none)
      | none=>none)
     | none=>none) else none
    | none=>none)
   | _=>none)
  | _=>none
 | .exp e,env,h=>match af P c1 c2 e env h with
  | some (_,h1)=>some (.nx,env,h1)
  | none=>none
 | .ret e,env,h=>match af P c1 c2 e env h with
  | some (d,h1)=>some (.rt d,env,h1)
  | none=>none
 | .retN,env,h=>some (.rt .non,env,h)
 | .iff c a b,env,h=>match cv P c1 c2 c env h with
  | some (true,h1)=>az a env h1
  | some (false,h1)=>az b env h1
  | none=>none
 | .whl c b,env,h=>iK (cv P c1 c2 c) (az b) P.W env h
 | .for_ g it b,env,h=>match cy P c1 c2 it env h with
  | some (xs,w,h1)=>aQ (fun h=>stay h w) (fun x env h=>match asg P c1 c2 g x env h with
   | some (env2,h2)=>az b env2 h2
   | none=>none) xs env h1
  | none=>none
 | .pass,env,h=>some (.nx,env,h)
 | .brk,env,h=>some (.bk,env,h)
 | .cnt,env,h=>some (.ct,env,h)
 | .nvr,_,_=>none
 | .par3 i j l a b c,env,h=>match af P c1 c2 a env h with
  | some (x,h1)=>(match af P c1 c2 b env h1 with
   | some (y,h2)=>(match af P c1 c2 c env h2 with
    | some (z,h3)=>some (.nx,ay (ay (ay env i x) j y) l z,h3)
    | none=>none)
   | none=>none)
  | none=>none
 | .forG c f nm o g b,env,h=>match af P c1 c2 o env h with
  | some (x,h1)=>(match aO h1 x with
   | some (c',fs)=>bif Nat.beq c c'&&(aY fs nm).isNone&&aD x then (match c2 f [x] .nil with
    | some (.non,_)=>some (.nx,env,h1)
    | some (.tup [v],_)=>bif aD v then (match asg P c1 c2 g v env h1 with
     | some (env2,h2)=>(match az b env2 h2 with
      | some (.rt d,env3,h3)=>some (.rt d,env3,h3)
      | some (.bk,env3,h3)=>some (.nx,env3,h3)
      | _=>none)
     | none=>none) else none
    | _=>none) else none
   | none=>none)
  | none=>none
 | .forK g e b,env,h=>match af P c1 c2 e env h with
  | some (.ref n,_)=>(match h.get n with
   | some (.dic t kvs)=>(match af P c1 c2 e env (h.del n) with
    | some (.ref n',h1)=>bif Nat.beq n' n then (match aQ (fun h=>stay h none) (fun x env h=>match asg P c1 c2 g x env h with
      | some (env2,h2)=>az b env2 h2
      | none=>none) (kvs.map (·.1)) env h1 with
     | some (fl,env',h2)=>some (fl,env',h2.put n (.dic t kvs))
     | none=>none) else none
    | _=>none)
   | _=>none)
  | _=>none
 | .repS i j c z,env,h=>match av env j with
  | some (.str t)=>bif vM z c.cps.toList t then some (.nx,uE i j z c.cps.toList env t,h) else none
  | _=>none
 | .forD g e b,env,h=>match af P c1 c2 e env h with
  | some (.dic _ kvs,h1)=>aQ (fun h=>stay h none) (fun x env h=>match asg P c1 c2 g x env h with
   | some (env2,h2)=>az b env2 h2
   | none=>none) (kvs.map (·.1)) env h1
  | _=>none
 | .setDc i z t own k v g it cs,env,h=>match cy P c1 c2 it env h with
  | some (xs,w,h1)=>(match fQ t (fun h=>stay h w) (fun x h=>match asg P c1 c2 g x (aI env own) h with
    | some (env2,h2)=>(match bC P c1 c2 cs env2 h2 with
     | some (true,h3)=>(match af P c1 c2 k env2 h3 with
      | some (y,h4)=>(match af P c1 c2 v env2 h4 with
       | some (u,h5)=>some (some (y,u),h5)
       | none=>none)
      | none=>none)
     | some (false,h3)=>some (none,h3)
     | none=>none)
    | none=>none) xs [] h1 with
   | some (kvs,h2)=>some (.nx,ay env i (bj z (.dic t kvs) h2).1,(bj z (.dic t kvs) h2).2)
   | none=>none)
  | none=>none
 | .setDk i z t own k v g e cs,env,h=>match af P c1 c2 e env h with
  | some (.ref n,_)=>(match h.get n with
   | some (.dic t0 kvs0)=>(match af P c1 c2 e env (h.del n) with
    | some (.ref n',h1)=>bif Nat.beq n' n then (match fQ t (fun h=>stay h none) (fun x h=>match asg P c1 c2 g x (aI env own) h with
      | some (env2,h2)=>(match bC P c1 c2 cs env2 h2 with
       | some (true,h3)=>(match af P c1 c2 k env2 h3 with
        | some (y,h4)=>(match af P c1 c2 v env2 h4 with
         | some (u,h5)=>some (some (y,u),h5)
         | none=>none)
        | none=>none)
       | some (false,h3)=>some (none,h3)
       | none=>none)
      | none=>none) (kvs0.map (·.1)) [] h1 with
     | some (kvs,h2)=>some (.nx,ay env i (bj z (.dic t kvs) h2).1,(bj z (.dic t kvs) h2).2.put n (.dic t0 kvs0))
     | none=>none) else none
    | _=>none)
   | _=>none)
  | _=>none
 | .tryT b,env,h=>az b env h
 | .rai _ _,_,_=>none
 | .tryF e c i f,env,h=>match af P c1 c2 e env h with
  | some (_,h1)=>some (.nx,env,h1)
  | none=>(match bh P c1 c2 true e env h with
   | some (c',_,h1)=>bif Nat.beq c' c then (match af P c1 c2 (.fld (.var i) f) env h1 with
    | some (d,h2)=>some (.rt d,env,h2)
    | none=>none) else none
   | none=>none)
 | .raiC _ _,_,_=>none
 | .tryC r e hs,env,h=>match af P c1 c2 e env h with
  | some (d,h1)=>some (bif r then .rt d else .nx,env,h1)
  | none=>(match bh P c1 c2 true e env h with
   | some (c',fs,h1)=>(match qc P c' fs hs env with
    | some (d,env1)=>some (.rt d,env1,h1)
    | none=>none)
   | none=>(match e9 P c1 c2 e env h with
    | some (c',fs,h1)=>(match qc P c' fs hs env with
     | some (d,env1)=>some (.rt d,env1,h1)
     | none=>none)
    | none=>none))
 | .raiV _ _,_,_=>none
 | .tryR e _ _ _ _,env,h=>match af P c1 c2 e env h with
  | some (_,h1)=>some (.nx,env,h1)
  | none=>none
def az:Ss→Env→Mm→Option (Fl×Env×Mm)
 | .nil,env,h=>some (.nx,env,h)
 | .cons s r,env,h=>match cb s env h with
  | some (.nx,env1,h1)=>az r env1 h1
  | some (.bk,env1,h1)=>some (.bk,env1,h1)
  | some (.ct,env1,h1)=>some (.ct,env1,h1)
  | some (.rt d,env1,h1)=>some (.rt d,env1,h1)
  | none=>none
 | .iso r,env,h=>match az r (env.map fun o=>match o with | some d=>(bif aD d then some d else none) | none=>none) .nil with
  | some (.nx,env1,_)=>some (.nx,env1.map fun o=>match o with | some d=>(bif aD d then some d else none) | none=>none,h)
  | some (.ct,env1,_)=>some (.ct,env1.map fun o=>match o with | some d=>(bif aD d then some d else none) | none=>none,h)
  | some (.bk,env1,_)=>some (.bk,env1.map fun o=>match o with | some d=>(bif aD d then some d else none) | none=>none,h)
  | some (.rt d,_,_)=>bif aD d then some (.rt d,[],h) else none
  | none=>none
end
def cM:E→Bool
 | .call _ _ _=>true
 | .meth _ _ _ _ _ _=>true
 | .callM _ _ _ _ _ _=>true
 | .make _ _ _=>true
 | .fld _ _=>true
 | _=>false
mutual
def fU:S→Env→Mm→Option aP
 | .exp e,env,h=>bh P c1 c2 true e env h
 | .ret e,env,h=>bh P c1 c2 true e env h
 | .asg (.var _) e,env,h=>bif cM e then bh P c1 c2 true e env h else none
 | .asg (.fld _ _) e,env,h=>bh P c1 c2 true e env h
 | .asg (.tup _) e,env,h=>bif cM e then bh P c1 c2 true e env h else none
 | .whl c b,env,h=>iO (cv P c1 c2 c) (az P c1 c2 b) (eC b) P.W env h
 | .raiV c e,env,h=>match af P c1 c2 e env h with
  | some (_,h1)=>some (c,[],h1)
  | none=>none
 | .raiC c es,env,h=>match P.xcl c with
  | some fl=>(match aB P c1 c2 es env h with
   | some (vs,h1)=>bif Nat.beq vs.length fl.length then some (c,(fl.zip vs).reverse,h1) else none
   | none=>none)
  | none=>none
 | .forG c f nm o g b,env,h=>match af P c1 c2 o env h with
  | some (x,h1)=>(match aO h1 x with
   | some (c',fs)=>bif Nat.beq c c'&&(aY fs nm).isNone&&aD x then (match c2 f [x] .nil with
    | some (.tup [v],_)=>bif aD v then (match asg P c1 c2 g v env h1 with
     | some (env2,h2)=>eC b env2 h2
     | none=>none) else none
    | _=>none) else none
   | none=>none)
  | none=>none
 | .iff c a b,env,h=>match cv P c1 c2 c env h with
  | some (true,h1)=>eC a env h1
  | some (false,h1)=>eC b env h1
  | none=>none
 | .for_ g it b,env,h=>match cy P c1 c2 it env h with
  | some (xs,w,h1)=>gr (fun h=>stay h w) (fun x env h=>match asg P c1 c2 g x env h with
   | some (env2,h2)=>az P c1 c2 b env2 h2
   | none=>none) (fun x env h=>match asg P c1 c2 g x env h with
   | some (env2,h2)=>eC b env2 h2
   | none=>none) xs env h1
  | none=>none
 | .rai c _,_,h=>some (c,[],h)
 | _,_,_=>none
def eC:Ss→Env→Mm→Option aP
 | .cons s r,env,h=>orR (cb P c1 c2 s env h).isSome (fU s env h) (match cb P c1 c2 s env h with
  | some (.nx,env1,h1)=>eC r env1 h1
  | _=>none)
 | _,_,_=>none
end
mutual
def nD:S→Env→Mm→Option aP
 | .exp e,env,h=>orR (bh P c1 c2 true e env h).isNone (bh P c1 c2 true e env h) (e9 P c1 c2 e env h)
 | .ret e,env,h=>orR (bh P c1 c2 true e env h).isNone (bh P c1 c2 true e env h) (e9 P c1 c2 e env h)
 | .asg (.var _) e,env,h=>bif cM e then orR (bh P c1 c2 true e env h).isNone (bh P c1 c2 true e env h) (e9 P c1 c2 e env h) else none
 | .raiC c es,env,h=>fU P c1 c2 (.raiC c es) env h
 | .tryR e c o k i,env,h=>match bh P c1 c2 true e env h with
  | some (c',_,h1)=>(match P.xcl k,av env i with
   | some [f],some d=>bif Nat.beq c' c&&Nat.blt o env.length&&!(Nat.beq o i) then some (k,[(f,d)],h1) else none
   | _,_=>none)
  | none=>none
 | .iff c a b,env,h=>match cv P c1 c2 c env h with
  | some (true,h1)=>gq a env h1
  | some (false,h1)=>gq b env h1
  | none=>none
 | .for_ g it b,env,h=>match cy P c1 c2 it env h with
  | some (xs,w,h1)=>gr (fun h=>stay h w) (fun x env h=>match asg P c1 c2 g x env h with
   | some (env2,h2)=>az P c1 c2 b env2 h2
   | none=>none) (fun x env h=>match asg P c1 c2 g x env h with
   | some (env2,h2)=>gq b env2 h2
   | none=>none) xs env h1
  | none=>none
 | _,_,_=>none
def gq:Ss→Env→Mm→Option aP
 | .cons s r,env,h=>orR (cb P c1 c2 s env h).isSome (nD s env h) (match cb P c1 c2 s env h with
  | some (.nx,env1,h1)=>gq r env1 h1
  | _=>none)
 | _,_,_=>none
end
end
section
variable (P:Prg) (c1 c2:Fs)
mutual
def yj:G→Env→Mm→Option (Fl×Env×Mm)
 | .s s,env,h=>match cb P c1 c2 s env h with
  | some (.nx,env1,h1)=>some (.nx,env1,h1)
  | some (.bk,env1,h1)=>some (.bk,env1,h1)
  | some (.ct,env1,h1)=>some (.ct,env1,h1)
  | _=>none
 | .yld e,env,h=>match af P c1 c2 e env h with
  | some (d,h1)=>some (.rt d,env,h1)
  | none=>none
 | .iff c a b,env,h=>match cv P c1 c2 c env h with
  | some (true,h1)=>iM a env h1
  | some (false,h1)=>iM b env h1
  | none=>none
 | .for_ g it b,env,h=>match cy P c1 c2 it env h with
  | some (xs,w,h1)=>aQ (fun h=>stay h w) (fun x env h=>match asg P c1 c2 g x env h with
   | some (env2,h2)=>iM b env2 h2
   | none=>none) xs env h1
  | none=>none
def iM:Gs→Env→Mm→Option (Fl×Env×Mm)
 | .nil,env,h=>some (.nx,env,h)
 | .cons s r,env,h=>match yj s env h with
  | some (.nx,env1,h1)=>iM r env1 h1
  | some (.bk,env1,h1)=>some (.bk,env1,h1)
  | some (.ct,env1,h1)=>some (.ct,env1,h1)
  | some (.rt d,env1,h1)=>some (.rt d,env1,h1)
  | none=>none
end
end
def gC (st:Mm→Bool) (turn:D→Env→Mm→Option (Fl×List D×Env×Mm)):List D→Env→Mm→Option (Fl×List D×Env×Mm)
 | [],env,h=>bif st h then some (.nx,[],env,h) else none
 | x :: r,env,h=>bif st h then (match turn x env h with
  | some (.nx,o,env',h')=>(match gC st turn r env' h' with
   | some (fl,os,env2,h2)=>some (fl,o++os,env2,h2)
   | none=>none)
  | some (.ct,o,env',h')=>(match gC st turn r env' h' with
   | some (fl,os,env2,h2)=>some (fl,o++os,env2,h2)
   | none=>none)
  | some (.bk,o,env',h')=>some (.nx,o,env',h')
  | _=>none) else none
section
variable (P:Prg) (c1 c2:Fs)
mutual
def xE:G→Env→Mm→Option (Fl×List D×Env×Mm)
 | .s s,env,h=>match cb P c1 c2 s env h with
  | some (.nx,env1,h1)=>some (.nx,[],env1,h1)
  | some (.bk,env1,h1)=>some (.bk,[],env1,h1)
  | some (.ct,env1,h1)=>some (.ct,[],env1,h1)
  | _=>none
 | .yld e,env,h=>match af P c1 c2 e env h with
  | some (d,h1)=>some (.nx,[d],env,h1)
  | none=>none
 | .iff c a b,env,h=>match cv P c1 c2 c env h with
  | some (true,h1)=>fZ a env h1
  | some (false,h1)=>fZ b env h1
  | none=>none
 | .for_ g it b,env,h=>match cy P c1 c2 it env h with
  | some (xs,w,h1)=>gC (fun h=>stay h w) (fun x env h=>match asg P c1 c2 g x env h with
   | some (env2,h2)=>fZ b env2 h2
   | none=>none) xs env h1
  | none=>none
def fZ:Gs→Env→Mm→Option (Fl×List D×Env×Mm)
 | .nil,env,h=>some (.nx,[],env,h)
 | .cons s r,env,h=>match xE s env h with
  | some (.nx,o,env1,h1)=>(match fZ r env1 h1 with
   | some (fl,os,env2,h2)=>some (fl,o++os,env2,h2)
   | none=>none)
  | some (.bk,o,env1,h1)=>some (.bk,o,env1,h1)
  | some (.ct,o,env1,h1)=>some (.ct,o,env1,h1)
  | _=>none
end
end
def aM:Nat→Env
 | 0=>[]
 | n + 1=>none :: aM n
def aL (P:Prg) (c1 c2:Fs):Fs:=fun f vs h=>match P.fns f with
  | some k=>if vs.length=k.np then (match az P c1 c2 k.body (vs.map some++aM (k.ns - k.np)) h with
   | some (.nx,_,h')=>some (.non,h')
   | some (.rt r,_,h')=>some (r,h')
   | _=>none) else none
  | none=>(match P.gns f with
   | some k=>if vs.length=k.np then (match iM P c1 c2 k.body (vs.map some++aM (k.ns - k.np)) h with
    | some (.nx,_,h')=>some (.non,h')
    | some (.rt r,_,h')=>some (.tup [r],h')
    | _=>none) else none
   | none=>bif Nat.ble 10000 f then (bif P.xfn (f - 10000)||P.xdn (f - 10000) then (match P.fns (f - 10000) with
    | some k=>if vs.length=k.np then (match eC P c1 c2 k.body (vs.map some++aM (k.ns - k.np)) h with
     | some (c,fs,h')=>some (.ins c fs,h')
     | none=>none) else none
    | none=>none) else bif Nat.ble 20000 f&&P.xhf (f - 20000) then (match P.fns (f - 20000) with
    | some k=>if vs.length=k.np then (match gq P c1 c2 k.body (vs.map some++aM (k.ns - k.np)) h with
     | some (c,fs,h')=>some (.ins c fs,h')
     | none=>none) else none
    | none=>none) else none) else bif Nat.ble 6000 f then c2 (f - 1000) vs h else (match P.gns (f - 5000) with
    | some k=>bif Nat.ble 5000 f then (if vs.length=k.np then (match fZ P c1 c2 k.body (vs.map some++aM (k.ns - k.np)) h with
     | some (.nx,os,_,h')=>some (.tup os,h')
     | _=>none) else none) else none
    | none=>none))
def aj (P:Prg):Nat→Fs×Fs
 | 0=>(fun _ _ _=>none,fun _ _ _=>none)
 | d + 1=>(aL P (aj P d).1 (aj P d).2,(aj P d).1)
def call (P:Prg) (d:Nat):Fs:=(aj P d).1
open PySem PySem.Spec PyProof.Rows
def cN:Ty→String
 | .int=>"int" | .str=>"str" | .bool=>"bool" | .tuple=>"tuple" | .list=>"list" | .dict=>"dict"
def jq:List DictEntry→Option (List (Str×Str×Int))
 | []=>some []
 | e :: r=>match e.key,e.val,jq r with
  | .str a _,.str b _,some s=>some ((a,b,e.hash) :: s)
  | _,_,_=>none
def mN (K:PySem.W.Frag) (x:Str):Option (List (Str×Str×Int)):=match He.ga K x == sysModules with
 | true=>none
 | false=>match K.lookup (He.ga K x) with
  | some ⟨.type c,none,.dict es _,⟨[]⟩⟩=>(match c == "dict" with
   | true=>jq es.toList
   | false=>none)
  | _=>none
def jA:List Value→Option (List (Str×Str×Int))
 | []=>some []
 | .str a _ :: r=>match jA r with
  | some s=>some ((a,a,0) :: s)
  | none=>none
 | _=>none
def mH (K:PySem.W.Frag) (x:Str):Option (List (Str×Str×Int)):=match K.lookup (He.ga K x) with
 | some ⟨.type c,_,.seq its _,_⟩=>(match c == "tuple"&&Nat.ble its.size 1000 with
  | true=>jA its.toList
  | false=>none)
 | _=>none
def ak {α:Type}:List (Nat×α)→Nat→Option α
 | [],_=>none
 | (a,b) :: r,k=>bif Nat.beq a k then some b else ak r k
structure Xc where
 nm:Str
 fl:List Str
 own:Bool
 base:Str
 bi:Nat
 init:Nat
structure Dks where
 ds:List (Str×List (Str×Str))
 ts:List (Str×List Str)
 cs:List Str:=[]
 xs:List (Nat×Str):=[]
 xi:List (Nat×Xc):=[]
 xo:List (Nat×Str):=[]
 xu:List (Nat×Nat×Bool):=[]
 xq:List (Nat×Str×Bool×Bool):=[]
def Dks.xnm (ds:Dks) (k:Nat):Option Str:=match ak ds.xs k with
 | some x=>some x
 | none=>match ak ds.xi k with
  | some x=>some x.nm
  | none=>ak ds.xo k
def pR (K:PySem.W.Frag) (C:Addr):Bool:=decide (PySem.W.findIn K (.ref C) "__class__" = some (some (.builtin "object.__class__")))&&(decide (PySem.W.specialIn K (.builtin "object.__class__") "__get__" = some (some (.builtin "getset_descriptor.__get__")))&&(decide (PySem.W.takesIn K (.builtin "object.__class__")=some true) &&
 (decide (PySem.W.mroIn K C (.type "object")=some true)&&[Ty.int,.str,.bool,.tuple,.list,.dict].all fun t=>decide (PySem.W.kitOne K (.ref C) (.type (cN t))=some false))))
def m8 (K:PySem.W.Frag) (x:Str):Option (List (Str×Str×Int)):=match PySem.W.isClsIn K (He.ga K x)&&(decide (PySem.W.typeIn K (.ref (He.ga K x))=some (.type "type"))&&pR K (He.ga K x)) with
 | true=>some []
 | false=>none
def vh:List Value:=[.type "RuntimeError",.type "Exception",.type "BaseException",.type "object"]
def vm (K:PySem.W.Frag) (a:Addr):Bool:=PySem.W.excIn K a He.veBase "ValueError.__new__"||PySem.W.excIn K a vh "RuntimeError.__new__"
def mR (K:PySem.W.Frag) (x:Str):Option (List (Str×Str×Int)):=match vm K (He.ga K x)&&(PySem.W.keepIn K (.ref (He.ga K x))&&(decide (PySem.W.subIn K (.ref (He.ga K x)) (.type "BaseException")=some true)&&(decide (PySem.W.typeIn K (.ref (He.ga K x))=some (.type "type"))&&decide (PySem.W.exmOne K (.ref (He.ga K x)) (.ref (He.ga K x))=some true)))) with
 | true=>some []
 | false=>none
def xB:Nat→String×String×String×List Value
 | 0=>("ValueError","ValueError.__new__","ValueError.__init__",[.type "ValueError",.type "Exception",.type "BaseException",.type "object"])
 | 1=>("LookupError","LookupError.__new__","LookupError.__init__",[.type "LookupError",.type "Exception",.type "BaseException",.type "object"])
 | 2=>("IndexError","IndexError.__new__","IndexError.__init__",[.type "IndexError",.type "LookupError",.type "Exception",.type "BaseException",.type "object"])
 | 3=>("RuntimeError","RuntimeError.__new__","RuntimeError.__init__",[.type "RuntimeError",.type "Exception",.type "BaseException",.type "object"])
 | _=>("OverflowError","OverflowError.__new__","OverflowError.__init__",[.type "OverflowError",.type "ArithmeticError",.type "Exception",.type "BaseException",.type "object"])
def rj (K:PySem.W.Frag) (C:Addr):Bool:=(PySem.W.clsIn K C).isSome&&(decide (PySem.W.findIn K (.ref C) "__getattribute__" = some (some (.builtin "BaseException.__getattribute__")))&&(decide (PySem.W.findIn K (.ref C) "__getattr__" = some none)&&(decide (PySem.W.subIn K (.ref C) (.type "BaseException")=some true) &&
 (decide (PySem.W.findIn K (.ref C) "__class__" = some (some (.builtin "object.__class__")))&&(decide (PySem.W.specialIn K (.builtin "object.__class__") "__get__" = some (some (.builtin "getset_descriptor.__get__")))&&(decide (PySem.W.takesIn K (.builtin "object.__class__")=some true)&&(decide (PySem.W.mroIn K C (.type "object")=some true)&&PySem.W.hasDictIn K C)))))))
def sC (K:PySem.W.Frag) (x:Xc):Bool:=match x.own with
 | true=>PySem.W.readsIn K (He.ga K x.base) (.type "type")&&(decide (PySem.W.specialIn K (.ref (He.ga K x.base)) "__getattribute__" = some (some (.builtin "type.__getattribute__")))&&(match PySem.W.findCls K (.ref (He.ga K x.base)) (.type "type") "__init__" with | some (.val (.builtin i))=>i == (xB x.bi).2.2.1 | _=>false))
 | false=>x.base == Str.ofString (xB x.bi).1&&(match PySem.W.findCls K (.type (xB x.bi).1) (.type "type") "__init__" with | some (.val (.builtin i))=>i == (xB x.bi).2.2.1 | _=>false)
def fH (K:PySem.W.Frag) (x:Xc):Bool:=PySem.W.excInitIn K (He.ga K x.nm) (xB x.bi).2.2.2 (xB x.bi).2.1&&(PySem.W.excOver K (He.ga K x.nm) (xB x.bi).2.2.2&&(decide (PySem.W.findIn K (.ref (He.ga K x.nm)) "__setattr__" = some (some (.builtin "object.__setattr__"))) &&
 (decide (PySem.W.typeIn K (.ref (He.ga K x.nm))=some (.type "type"))&&(PySem.W.keepIn K (.ref (He.ga K x.nm))&&(decide (PySem.W.findIn K (.ref (He.ga K x.nm)) "__init__" = some (some (.ref (He.fAd K (x.nm,some "__init__")))))&&(decide (PySem.W.typeIn K (.ref (He.fAd K (x.nm,some "__init__")))=some (.type "function")) &&
 (rj K (He.ga K x.nm)&&(x.fl.all (fun f=>decide (PySem.W.findIn K (.ref (He.ga K x.nm)) f=some none))&&sC K x))))))))
def kY (b:Bool):Option (List (Str×Str×Int)):=match b with
 | true=>some []
 | false=>none
def sv (K:PySem.W.Frag) (ds:Dks) (x:Nat×Nat×Bool):Bool:=match ds.xnm x.1,ds.xnm x.2.1 with
 | some a,some b=>decide (PySem.W.exmOne K (.ref (He.ga K a)) (.ref (He.ga K b))=some x.2.2)
 | _,_=>false
def lP (K:PySem.W.Frag) (ds:Dks) (x:Nat×Str×Bool×Bool):Bool:=match ds.xnm x.1 with
 | some a=>rj K (He.ga K a)&&(match x.2.2.1 with
  | true=>decide (PySem.W.kitOne K (.ref (He.ga K a)) (.ref (He.ga K x.2.1))=some x.2.2.2)
  | false=>(match bootBuiltins x.2.1 with
   | some (.type T)=>decide (PySem.W.kitOne K (.ref (He.ga K a)) (.type T)=some x.2.2.2)&&!(x.2.1 == "__name__")
   | _=>false))
 | none=>false
def Dks.xall (ds:Dks):List (Option (List (Str×Str×Int))):=(ds.xi.map fun _=>some [])++((ds.xu.map fun _=>some [])++ds.xq.map fun _=>some [])
def wV (K:PySem.W.Frag) (ds:Dks):List (Option (List (Str×Str×Int))):=(ds.xi.map fun x=>kY (fH K x.2))++((ds.xu.map fun x=>kY (sv K ds x))++ds.xq.map fun x=>kY (lP K ds x))
def mu (ds:Dks) (w:World):List (Option (List (Str×Str×Int))):=(ds.ds.map fun d=>some (d.2.map fun p=>(p.1,p.2,PyData.keyHash w.params p.1)))++((ds.ts.map fun d=>some (d.2.map fun s=>(s,s,0)))++((ds.cs.map fun _=>some [])++((ds.xs.map fun _=>some [])++ds.xall)))
def fJ (K:PySem.W.Frag) (ds:Dks):List (Option (List (Str×Str×Int))):=(ds.ds.map fun d=>mN K d.1)++((ds.ts.map fun d=>mH K d.1)++((ds.cs.map fun x=>m8 K x)++((ds.xs.map fun x=>mR K x.2)++wV K ds)))
def sr {β:Type}:List Addr→(List Addr→β)→β
 | [],k=>k []
 | a :: r,k=>HandSHeadRun.frNat a fun a=>sr r fun r=>k (a :: r)
theorem oA {β:Type}:∀ (l:List Addr) (k:List Addr→β),sr l k=k l
 | [],_=>rfl
 | a :: r,k=>by
  unfold sr
  rw[HandSHeadRun.frNat_eq,oA r]
def l7 {β:Type} (g:Addr→Option Obj):List Addr→(PySem.W.Frag→β)→β
 | [],k=>k []
 | a :: r,k=>match g a with
  | some o=>l7 g r fun K=>k ((a,o) :: K)
  | none=>l7 g r k
theorem kS {β:Type} (g:Addr→Option Obj):∀ (l:List Addr) (k:PySem.W.Frag→β),l7 g l k=k (He.frG g l)
 | [],_=>rfl
 | a :: r,k=>by
  unfold l7 He.frG
  cases e:g a with
  | none=>simp only[List.filterMap_cons,e,Option.map_none];exact kS g r k
  | some o=>simp only[List.filterMap_cons,e,Option.map_some];exact kS g r _
def qP (o:Obj):List Addr:=He.refsO o++match o.data with
 | .func fd=>He.refV fd.kwdefaults
 | _=>[]
def nf {β:Type} (g:Addr→Option Obj):Nat→List Addr→(List Addr→β)→β
 | 0,_,k=>k []
 | n + 1,as,k=>sr as fun as=>nf g n (as.flatMap fun a=>match g a with
  | some o=>qP o
  | none=>[]) fun bs=>k (as++bs)
theorem lN {β:Type} (g:Addr→Option Obj):∀ (n:Nat) (as:List Addr) (k:List Addr→β),∃ bs,nf g n as k=k bs
 | 0,_,_=>⟨[],rfl⟩
 | n + 1,as,k=>by
  unfold nf
  rw[oA]
  obtain⟨bs,e⟩:=lN g n (as.flatMap fun a=>match g a with
   | some o=>qP o
   | none=>[]) fun bs=>k (as++bs)
  exact⟨as++bs,e⟩
def uW:He.Fa→Option Str
 | .glo x=>some x
 | _=>none
def kP (n:Nat) (fa:List He.Fa) (fn:List He.DefD) (ds:Dks) (g:Addr→Option Obj):He.AlD×List (Option (List (Str×Str×Int))):=
 nf g n ((fa.filterMap uW).map (He.ga (He.frG g [mainGlobals]))) fun as=>l7 g (mainGlobals :: cStatics :: as) fun K=>(He.obsD fa fn K,fJ K ds)
theorem tH (n:Nat) (fa:List He.Fa) (fn:List He.DefD) (ds:Dks) (g:Addr→Option Obj):∃ as,kP n fa fn ds g=(He.obsD fa fn (He.frG g as),fJ (He.frG g as) ds):=by
 unfold kP
 obtain⟨as,e⟩:=lN g n ((fa.filterMap uW).map (He.ga (He.frG g [mainGlobals]))) fun as=>l7 g (mainGlobals :: cStatics :: as) fun K=>(He.obsD fa fn K,fJ K ds)
 exact⟨mainGlobals :: cStatics :: as,by rw[e,kS]⟩
def mO (n:Nat) (fa:List He.Fa) (fn:List He.DefD) (ds:Dks):PySem.W.Hook where
 α:=He.AlD×List (Option (List (Str×Str×Int)))
 obs:=fun s=>kP n fa fn ds s.heap.get?
 val:=fun w=>(He.valD fn,mu ds w)
 says:=fun w h=>∃ K:PySem.W.Frag,K.In h∧He.SaysD fa fn K∧fJ K ds=mu ds w
 of:=fun w s e=>by
  obtain⟨as,q⟩:=tH n fa fn ds s.heap.get?
  have e:=q.symm.trans e
  exact⟨_,He.frG_in (as:=as),congrArg (fun z:He.AlD×List (Option (List (Str×Str×Int)))=>z.1) e,congrArg (fun z:He.AlD×List (Option (List (Str×Str×Int)))=>z.2) e⟩
 keeps:=fun _ _ _ ⟨K,hK,c⟩ k=>⟨K,PySem.W.Frag.In.keeps hK k,c⟩
theorem tN {n:Nat} {fa:List He.Fa} {fn:List He.DefD} {ds:Dks} {g:Addr→Option Obj} {s:Shared} (h:∀ a,g a=s.heap.get? a):kP n fa fn ds g=(mO n fa fn ds).obs s:=by
 have e:g=s.heap.get?:=funext h
 rw[e]<;>rfl
open L2 (defArgs defBody defScope)
structure Df where
 at_:Str×Option Str
 name:Str
 qual:Str
 st:Stmt
 ps:List Str
 N:List Str
 ir:Ss
 gir:Option Gs:=none
 rep:Bool:=false
 kws:List (Nat×List Str×List Nat):=[]
 kwd:List (Str×Int):=[]
 rse:Bool:=false
 hot:Bool:=false
structure Kl where
 nm:Str
 init:Nat
 flds:List Str
 ms:List (Str×Nat)
structure Tab where
 frees:List Str
 txs:List (Str×Str)
 nts:List (Str×Int)
 dks:Dks
 cls:List (Nat×Kl)
 defs:List (Nat×Df)
 W:Nat
 lw:Str
def Df.top (d:Df):Bool:=d.at_.2.isNone
def Df.he (d:Df):He.DefD:=⟨d.at_,d.name,d.qual,defArgs d.st,defBody d.st,defScope d.st,[],d.kwd.map fun p=>(p.1,.int p.2)⟩
def Tab.fa (t:Tab):List He.Fa:=t.frees.map .free++((t.txs.map (fun p=>.str p.1 p.2)++t.nts.map (fun p=>.int p.1 p.2))++((t.dks.ds.map (fun p=>.glo p.1)++t.dks.ts.map (fun p=>.glo p.1))++((t.defs.filter fun d=>d.2.top).map (fun d=>.glo d.2.at_.1) ++
 ((t.cls.flatMap fun k=>.glo k.2.nm :: .cls k.2.nm :: .mkr k.2.nm :: (k.2.flds.map (.noat k.2.nm)++k.2.ms.map fun m=>.meth k.2.nm m.1))++(t.dks.xs.map (fun p=>.glo p.2)++([.glo t.lw]++(t.dks.xi.flatMap (fun p=>.glo p.2.nm :: bif p.2.own then [.glo p.2.base] else [.free p.2.base])++(t.dks.xo.map (fun p=>.glo p.2)++t.dks.xq.map (fun p=>bif p.2.2.1 then .glo p.2.1 else .free p.2.1)))))))))
end Ev
end
section
namespace Sy
open PySem (Str)
open Ev
open Ev (E Es Ks C Cs T Ts S Ss)
abbrev r_ROLES:List (Str×Str):=[("del","delete"),("global","global"),("nonlocal","nonlocal")]
abbrev tF:D:=.kd (r_ROLES.map fun p=>(p.1,D.str p.2))
def B1:Ss:=(.cons (.asg (.fld (.var 0) "blocks") (.lst false .nil))
  (.cons (.asg (.fld (.var 0) "kinds") (.dic false true .nil))
  (.cons (.asg (.fld (.var 0) "inner") (.dic false true .nil))
  (.cons (.asg (.fld (.var 0) "mentions") (.lst false .nil))
  (.cons (.asg (.fld (.var 0) "seats") (.lst false .nil))
  (.cons (.asg (.fld (.var 0) "targets") (.dic false true .nil))
  (.cons (.asg (.fld (.var 0) "walruses") (.lst false .nil))
  (.cons (.asg (.fld (.var 0) "holes") (.lst false .nil))
  (.cons (.exp (.meth .sh 1 2 "begin" (.var 0) (.cons (.tup .nil) (.cons (.glo "MODULE" (.str "module")) .nil))))
  (.cons (.exp (.meth .sh 1 6 "read_rows" (.var 0) (.cons (.var 1) (.cons (.tup .nil) .nil))))
  .nil))))))))))
def B2:Ss:=(.cons (.exp (.bm .append (.fld (.var 0) "blocks") (.cons (.tup (.cons (.var 1) (.cons (.var 2) .nil))) .nil)))
  (.cons (.asg (.sub (.fld (.var 0) "kinds") (.var 1)) (.var 2))
  (.cons (.asg (.sub (.fld (.var 0) "inner") (.var 1)) (.int 0))
  (.cons (.ret (.var 1))
  .nil))))
def B3:Ss:=(.cons (.asg (.var 3) (.idx (.fld (.var 0) "inner") (.var 1)))
  (.cons (.augS (.fld (.var 0) "inner") (.var 1) .add (.int 1))
  (.cons (.ret (.meth .sh 1 2 "begin" (.var 0) (.cons (.bin .add true (.var 1) (.tup (.cons (.var 3) .nil))) (.cons (.var 2) .nil))))
  .nil)))
def B4:Ss:=(.cons (.whl (.of (.cmp .eq (.idx (.fld (.var 0) "kinds") (.var 1)) (.glo "LIST" (.str "list")))) (.cons (.asg (.var 1) (.sl true (.var 1) .nil (.cons (.neg (.int 1)) .nil)))
  .nil))
  (.cons (.ret (.var 1))
  .nil))
def B5:Ss:=(.cons (.exp (.bm .append (.fld (.var 0) "mentions") (.cons (.tup (.cons (.var 1) (.cons (.var 2) (.cons (.var 3) .nil)))) .nil)))
  (.cons (.exp (.bm .append (.fld (.var 0) "seats") (.cons (.var 1) .nil)))
  .nil))
def B6:Ss:=(.cons (.for_ (.var 3) (.of (.var 1)) (.cons (.exp (.meth .sh 1 7 "read_row" (.var 0) (.cons (.var 3) (.cons (.var 2) .nil))))
  .nil))
  .nil)
def B7:Ss:=(.cons (.asg (.var 3) (.idx (.var 1) (.int 0)))
  (.cons (.iff (.of (.cmp .eq (.var 3) (.str "hole"))) (.cons (.exp (.bm .append (.fld (.var 0) "holes") (.cons (.var 2) .nil)))
  .nil) (.cons (.iff (.of (.cmp .inn (.var 3) (.tup (.cons (.str "do") (.cons (.str "return") .nil))))) (.cons (.exp (.meth .sh 1 9 "read_expr" (.var 0) (.cons (.idx (.var 1) (.int 1)) (.cons (.var 2) (.cons (.bl false) .nil)))))
  .nil) (.cons (.exp (.meth .sh 1 5 "mention" (.var 0) (.cons (.var 2) (.cons (.idx (.var 1) (.int 1)) (.cons (.bm .get2 (.glo "ROLES" tF) (.cons (.var 3) (.cons (.glo "WRITE" (.str "write")) .nil))) .nil)))))
  (.cons (.iff (.of (.cmp .eq (.var 3) (.str "set"))) (.cons (.exp (.meth .sh 1 9 "read_expr" (.var 0) (.cons (.idx (.var 1) (.int 2)) (.cons (.var 2) (.cons (.bl false) .nil)))))
  .nil) (.cons (.iff (.of (.cmp .eq (.var 3) (.str "def"))) (.cons (.asg (.var 4) (.meth .sh 1 3 "begin_in" (.var 0) (.cons (.var 2) (.cons (.glo "FUNCTION" (.str "function")) .nil))))
  (.cons (.exp (.meth .sh 1 8 "read_parameters" (.var 0) (.cons (.idx (.var 1) (.int 2)) (.cons (.var 4) .nil))))
  (.cons (.exp (.meth .sh 1 6 "read_rows" (.var 0) (.cons (.idx (.var 1) (.int 3)) (.cons (.var 4) .nil))))
  .nil))) (.cons (.iff (.of (.cmp .eq (.var 3) (.str "class"))) (.cons (.exp (.meth .sh 1 6 "read_rows" (.var 0) (.cons (.idx (.var 1) (.int 2)) (.cons (.meth .sh 1 3 "begin_in" (.var 0) (.cons (.var 2) (.cons (.glo "CLASS" (.str "class")) .nil))) .nil))))
  .nil) .nil)
  .nil))
  .nil))
  .nil)))
  .nil))
  .nil))
def B8:Ss:=(.cons (.for_ (.var 3) (.of (.var 1)) (.cons (.exp (.meth .sh 1 5 "mention" (.var 0) (.cons (.var 2) (.cons (.var 3) (.cons (.glo "PARAMETER" (.str "parameter")) .nil)))))
  .nil))
  .nil)
def B9:Ss:=(.cons (.iff (.not (.of (.isi (.var 1) .tuple))) (.cons .retN
  .nil) .nil)
  (.cons (.asg (.var 4) (.idx (.var 1) (.int 0)))
  (.cons (.iff (.of (.cmp .eq (.var 4) (.str "name"))) (.cons (.exp (.meth .sh 1 5 "mention" (.var 0) (.cons (.var 2) (.cons (.idx (.var 1) (.int 1)) (.cons (.glo "READ" (.str "read")) .nil)))))
  .nil) (.cons (.iff (.of (.cmp .eq (.var 4) (.str "call"))) (.cons (.for_ (.var 5) (.of (.bin .add true (.tup (.cons (.idx (.var 1) (.int 1)) .nil)) (.idx (.var 1) (.int 2)))) (.cons (.exp (.meth .sh 1 9 "read_expr" (.var 0) (.cons (.var 5) (.cons (.var 2) (.cons (.var 3) .nil)))))
  .nil))
  .nil) (.cons (.iff (.of (.cmp .eq (.var 4) (.str "lambda"))) (.cons (.asg (.var 6) (.meth .sh 1 3 "begin_in" (.var 0) (.cons (.var 2) (.cons (.glo "LAMBDA" (.str "lambda")) .nil))))
  (.cons (.exp (.meth .sh 1 8 "read_parameters" (.var 0) (.cons (.idx (.var 1) (.int 1)) (.cons (.var 6) .nil))))
  (.cons (.exp (.meth .sh 1 9 "read_expr" (.var 0) (.cons (.idx (.var 1) (.int 2)) (.cons (.var 6) (.cons (.var 3) .nil)))))
  .nil))) (.cons (.iff (.of (.cmp .eq (.var 4) (.str "walrus"))) (.cons (.exp (.bm .append (.fld (.var 0) "walruses") (.cons (.tup (.cons (.blt .len true (.cons (.fld (.var 0) "mentions") .nil)) (.cons (.var 3) .nil))) .nil)))
  (.cons (.exp (.meth .sh 1 5 "mention" (.var 0) (.cons (.var 2) (.cons (.idx (.var 1) (.int 1)) (.cons (.glo "WRITE" (.str "write")) .nil)))))
  (.cons (.asg (.sub (.fld (.var 0) "seats") (.neg (.int 1))) (.meth .sh 1 4 "seat_of" (.var 0) (.cons (.var 2) .nil)))
  (.cons (.exp (.meth .sh 1 9 "read_expr" (.var 0) (.cons (.idx (.var 1) (.int 2)) (.cons (.var 2) (.cons (.var 3) .nil)))))
  .nil)))) (.cons (.exp (.meth .sh 1 10 "read_list" (.var 0) (.cons (.idx (.var 1) (.int 1)) (.cons (.idx (.var 1) (.int 2)) (.cons (.var 2) (.cons (.var 3) .nil))))))
  .nil))
  .nil))
  .nil))
  .nil))
  .nil)))
def B10:Ss:=(.cons (.asg (.var 5) (.meth .sh 1 3 "begin_in" (.var 0) (.cons (.var 3) (.cons (.glo "LIST" (.str "list")) .nil))))
  (.cons (.asg (.sub (.fld (.var 0) "targets") (.var 5)) (.comp true [7,8] (.var 7) (.tup (.cons (.var 7) (.cons (.var 8) .nil))) (.of (.var 2)) .nil))
  (.cons (.exp (.meth .sh 1 9 "read_expr" (.var 0) (.cons (.var 1) (.cons (.var 5) (.cons (.var 4) .nil)))))
  (.cons (.asg (.var 6) (.var 3))
  (.cons (.for_ (.tup (.cons (.var 7) (.cons (.var 8) .nil))) (.of (.var 2)) (.cons (.exp (.meth .sh 1 5 "mention" (.var 0) (.cons (.var 5) (.cons (.var 7) (.cons (.glo "WRITE" (.str "write")) .nil)))))
  (.cons (.exp (.meth .sh 1 9 "read_expr" (.var 0) (.cons (.var 8) (.cons (.var 6) (.cons (.bl true) .nil)))))
  (.cons (.asg (.var 6) (.var 5))
  .nil))))
  .nil)))))
def B200:Ss:=(.cons (.asg (.var 2) (.tup (.cons (.int 2147483647) (.cons (.int 2147483629) (.cons (.int 2147483587) (.cons (.int 2147483579) (.cons (.int 2147483563) (.cons (.int 2147483549) (.cons (.int 2147483543) .nil)))))))))
  (.cons (.asg (.var 3) (.ite (.of (.cmp .lt (.var 1) (.blt .len true (.cons (.var 0) .nil)))) (.idx (.var 0) (.var 1)) (.int 0)))
  (.cons (.asg (.var 4) (.ite (.of (.cmp .ge (.blt .abs true (.cons (.var 3) .nil)) (.bin .pow true (.int 10) (.int 18)))) (.blt .abs true (.cons (.var 3) .nil)) (.int 0)))
  (.cons (.asg (.var 5) (.bin .mod true (.bin .pow true (.bin .add true (.bin .add true (.bin .mod true (.var 3) (.int 2305843009213693951)) (.bin .mul true (.int 40961) (.var 1))) (.int 19)) (.int 3)) (.idx (.var 2) (.bin .mod true (.var 1) (.int 7)))))
  (.cons (.ret (.lst false (.cons (.var 4) (.cons (.bin .add true (.bin .mod true (.bin .mul true (.var 5) (.bin .add true (.bin .add true (.bin .fdiv true (.var 5) (.int 5)) (.bin .mul true (.int 3) (.var 1))) (.int 11))) (.idx (.var 2) (.bin .mod true (.bin .add true (.var 1) (.int 2)) (.int 7)))) (.int 1)) .nil))))
  .nil)))))
def B201:Ss:=(.cons (.iff (.of (.cmp .gt (.idx (.var 0) (.int 0)) (.int 0))) (.cons (.asg (.var 2) (.bin .mod true (.idx (.var 0) (.int 0)) (.var 1)))
  (.cons (.asg (.sub (.var 0) (.int 0)) (.bin .fdiv true (.idx (.var 0) (.int 0)) (.var 1)))
  (.cons (.ret (.var 2))
  .nil))) .nil)
  (.cons (.asg (.sub (.var 0) (.int 1)) (.bin .mod true (.bin .mul true (.idx (.var 0) (.int 1)) (.int 48271)) (.int 2147483647)))
  (.cons (.ret (.bin .mod true (.bin .fdiv true (.bin .mod true (.bin .mul true (.idx (.var 0) (.int 1)) (.int 69621)) (.int 2147483629)) (.bin .pow true (.int 16) (.int 2))) (.var 1)))
  .nil)))
def yx:Ss:=(.cons (.ret (.idx (.str "abcd") (.call .sh 201 (.cons (.var 0) (.cons (.int 4) .nil)))))
  .nil)
abbrev q_TOP:List Str:=[]
abbrev cO:D:=.tup (q_TOP.map D.str)
abbrev q_BINDING_ROLES:List Str:=["write","delete","parameter"]
abbrev gQ:D:=.tup (q_BINDING_ROLES.map D.str)
abbrev q_DECLARING_ROLES:List Str:=["global","nonlocal"]
abbrev cq:D:=.tup (q_DECLARING_ROLES.map D.str)
def B40:Ss:=(.cons (.asg (.fld (.var 0) "scan") (.make .iso 1 (.cons (.var 1) .nil)))
  (.cons (.asg (.fld (.var 0) "declared") (.dic false true .nil))
  (.cons (.asg (.fld (.var 0) "written") (.dic false true .nil))
  (.cons (.for_ (.tup (.cons (.tup (.cons (.var 3) (.cons (.var 4) (.cons (.var 5) .nil)))) (.cons (.var 2) .nil))) (.zip (.fld (.fld (.var 0) "scan") "mentions") (.fld (.fld (.var 0) "scan") "seats")) (.cons (.iff (.or (.cons (.of (.cmp .eq (.var 5) (.glo "GLOBAL" (.str "global")))) (.cons (.and (.cons (.of (.cmp .eq (.var 5) (.glo "NONLOCAL" (.str "nonlocal")))) (.cons (.of (.cmp .nin (.tup (.cons (.var 3) (.cons (.var 4) .nil))) (.fld (.var 0) "declared"))) .nil))) .nil))) (.cons (.asg (.sub (.fld (.var 0) "declared") (.tup (.cons (.var 3) (.cons (.var 4) .nil)))) (.var 5))
  .nil) .nil)
  (.cons (.iff (.of (.cmp .inn (.var 5) (.glo "BINDING_ROLES" gQ))) (.cons (.asg (.sub (.fld (.var 0) "written") (.tup (.cons (.var 2) (.cons (.var 4) .nil)))) (.bl true))
  .nil) .nil)
  .nil)))
  .nil))))
def B41:Ss:=(.cons (.ret (.and (.cons (.cmp .inn (.tup (.cons (.var 1) (.cons (.var 2) .nil))) (.fld (.var 0) "written")) (.cons (.cmp .nin (.tup (.cons (.var 1) (.cons (.var 2) .nil))) (.fld (.var 0) "declared")) .nil))))
  .nil)
def B42:Ss:=(.cons (.for_ (.var 3) (.rng (.cons (.bin .sub true (.blt .len true (.cons (.var 1) .nil)) (.int 1)) (.cons (.int 0) (.cons (.neg (.int 1)) .nil)))) (.cons (.asg (.var 4) (.sl true (.var 1) .nil (.cons (.var 3) .nil)))
  (.cons (.iff (.of (.cmp .ne (.idx (.fld (.fld (.var 0) "scan") "kinds") (.var 4)) (.glo "CLASS" (.str "class")))) (.cons (.iff (.of (.cmp .eq (.bm .get1 (.fld (.var 0) "declared") (.cons (.tup (.cons (.var 4) (.cons (.var 2) .nil))) .nil)) (.glo "GLOBAL" (.str "global")))) (.cons (.ret (.glo "TOP" cO))
  .nil) .nil)
  (.cons (.iff (.of (.meth .iso 3 41 "binds" (.var 0) (.cons (.var 4) (.cons (.var 2) .nil)))) (.cons (.ret (.var 4))
  .nil) .nil)
  .nil)) .nil)
  .nil)))
  (.cons (.ret (.glo "TOP" cO))
  .nil))
def B47:Ss:=(.cons (.asg (.tup (.cons (.var 4) (.cons (.var 5) (.cons (.var 6) .nil)))) (.idx (.fld (.fld (.var 0) "scan") "mentions") (.var 1)))
  (.cons (.asg (.var 3) (.idx (.fld (.fld (.var 0) "scan") "seats") (.var 1)))
  (.cons (.iff (.of (.var 2)) (.cons (.ret (.str "walrus in source"))
  .nil) .nil)
  (.cons (.iff (.and (.cons (.of (.cmp .ne (.var 4) (.var 3))) (.cons (.of (.cmp .eq (.idx (.fld (.fld (.var 0) "scan") "kinds") (.var 3)) (.glo "CLASS" (.str "class")))) .nil))) (.cons (.ret (.str "walrus in class"))
  .nil) .nil)
  (.cons (.whl (.of (.cmp .ne (.var 4) (.var 3))) (.cons (.iff (.of (.cmp .inn (.var 5) (.idx (.fld (.fld (.var 0) "scan") "targets") (.var 4)))) (.cons (.ret (.str "walrus of target"))
  .nil) .nil)
  (.cons (.asg (.var 4) (.sl true (.var 4) .nil (.cons (.neg (.int 1)) .nil)))
  .nil)))
  (.cons (.ret (.str ""))
  .nil))))))
def B48:Ss:=(.cons (.iff (.and (.cons (.of (.cmp .eq (.var 3) (.glo "NONLOCAL" (.str "nonlocal")))) (.cons (.of (.cmp .eq (.var 1) (.glo "TOP" cO))) .nil))) (.cons (.ret (.str "module nonlocal"))
  .nil) .nil)
  (.cons (.iff (.of (.cmp .inn (.glo "PARAMETER" (.str "parameter")) (.var 4))) (.cons (.ret (.str "declared parameter"))
  .nil) .nil)
  (.cons (.iff (.of (.cmp .ne (.comp true [5] (.var 5) (.var 5) (.of (.var 4)) (.cons (.and (.cons (.of (.cmp .inn (.var 5) (.glo "DECLARING_ROLES" cq))) (.cons (.of (.cmp .ne (.var 5) (.var 3))) .nil))) .nil)) (.lst true .nil))) (.cons (.ret (.str "two declarations"))
  .nil) .nil)
  (.cons (.iff (.of (.cmp .ne (.comp true [5] (.var 5) (.var 5) (.of (.var 4)) (.cons (.of (.cmp .nin (.var 5) (.glo "DECLARING_ROLES" cq))) .nil)) (.lst true .nil))) (.cons (.ret (.str "declared late"))
  .nil) .nil)
  (.cons (.iff (.and (.cons (.of (.cmp .eq (.var 3) (.glo "NONLOCAL" (.str "nonlocal")))) (.cons (.of (.cmp .eq (.meth .iso 3 42 "outer_home" (.var 0) (.cons (.var 1) (.cons (.var 2) .nil))) (.glo "TOP" cO))) .nil))) (.cons (.ret (.str "no binding"))
  .nil) .nil)
  (.cons (.ret (.str ""))
  .nil))))))
def B49:Ev.Gs:=(.cons (.s (.asg (.var 1) (.dic false true .nil)))
  (.cons (.s (.asg (.var 2) (.blt .dictOf true (.cons (.fld (.fld (.var 0) "scan") "walruses") .nil))))
  (.cons (.for_ (.tup (.cons (.var 3) (.cons (.tup (.cons (.var 6) (.cons (.var 7) (.cons (.var 8) .nil)))) .nil))) (.enm (.fld (.fld (.var 0) "scan") "mentions")) (.cons (.s (.asg (.var 4) (.bm .setdefault (.var 1) (.cons (.tup (.cons (.idx (.fld (.fld (.var 0) "scan") "seats") (.var 3)) (.cons (.var 7) .nil))) (.cons (.lst false .nil) .nil)))))
  (.cons (.s (.asg (.var 5) (.str "")))
  (.cons (.s (.iff (.and (.cons (.of (.cmp .eq (.var 8) (.glo "PARAMETER" (.str "parameter")))) (.cons (.of (.cmp .inn (.glo "PARAMETER" (.str "parameter")) (.var 4))) .nil))) (.cons (.asg (.var 5) (.str "parameter twice"))
  .nil) (.cons (.iff (.of (.cmp .inn (.var 8) (.glo "DECLARING_ROLES" cq))) (.cons (.asg (.var 5) (.meth .sh 3 48 "wrong_declaration" (.var 0) (.cons (.var 6) (.cons (.var 7) (.cons (.var 8) (.cons (.var 4) .nil))))))
  .nil) (.cons (.iff (.of (.cmp .inn (.var 3) (.var 2))) (.cons (.asg (.var 5) (.meth .iso 3 47 "wrong_walrus" (.var 0) (.cons (.var 3) (.cons (.idx (.var 2) (.var 3)) .nil))))
  .nil) .nil)
  .nil))
  .nil)))
  (.cons (.s (.exp (.bm .append (.var 4) (.cons (.var 8) .nil))))
  (.cons (.iff (.of (.cmp .ne (.var 5) (.str ""))) (.cons (.yld (.tup (.cons (.var 3) (.cons (.var 5) .nil))))
  .nil) .nil)
  .nil))))))
  .nil)))
def yz:Ss:=(.cons (.asg (.var 3) (.ite (.of (.cmp .gt (.var 1) (.int 0))) (.call .sh 201 (.cons (.var 0) (.cons (.int 8) .nil))) (.call .sh 201 (.cons (.var 0) (.cons (.int 4) .nil)))))
  (.cons (.iff (.of (.cmp .eq (.var 3) (.int 0))) (.cons (.ret (.call .sh 201 (.cons (.var 0) (.cons (.int 9) .nil))))
  .nil) .nil)
  (.cons (.iff (.or (.cons (.of (.cmp .lt (.var 3) (.int 4))) (.cons (.and (.cons (.of (.cmp .eq (.var 3) (.int 6))) (.cons (.of (.cmp .eq (.var 2) (.int 0))) .nil))) .nil))) (.cons (.ret (.tup (.cons (.str "name") (.cons (.call .sh 208 (.cons (.var 0) .nil)) .nil))))
  .nil) .nil)
  (.cons (.iff (.of (.cmp .eq (.var 3) (.int 4))) (.cons (.asg (.var 5) (.comp true [4] (.call .sh 213 (.cons (.var 0) (.cons (.bin .sub true (.var 1) (.int 1)) (.cons (.var 2) .nil)))) (.var 4) (.rng (.cons (.call .sh 201 (.cons (.var 0) (.cons (.int 3) .nil))) .nil)) .nil))
  (.cons (.ret (.tup (.cons (.str "call") (.cons (.call .sh 213 (.cons (.var 0) (.cons (.bin .sub true (.var 1) (.int 1)) (.cons (.var 2) .nil)))) (.cons (.blt .tupleOf true (.cons (.var 5) .nil)) .nil)))))
  .nil)) .nil)
  (.cons (.iff (.of (.cmp .eq (.var 3) (.int 5))) (.cons (.asg (.var 6) (.idx (.lst true (.cons (.tup (.cons (.str "a") (.cons (.str "b") .nil))) (.cons (.tup (.cons (.str "c") .nil)) (.cons (.tup .nil) (.cons (.tup (.cons (.call .sh 208 (.cons (.var 0) .nil)) .nil)) .nil))))) (.call .sh 201 (.cons (.var 0) (.cons (.int 4) .nil)))))
  (.cons (.ret (.tup (.cons (.str "lambda") (.cons (.var 6) (.cons (.call .sh 213 (.cons (.var 0) (.cons (.bin .sub true (.var 1) (.int 1)) (.cons (.blt .intOf true (.cons (.cmp .gt (.var 2) (.int 0)) .nil)) .nil)))) .nil)))))
  .nil)) .nil)
  (.cons (.iff (.of (.cmp .eq (.var 3) (.int 6))) (.cons (.ret (.tup (.cons (.str "walrus") (.cons (.call .sh 208 (.cons (.var 0) .nil)) (.cons (.call .sh 213 (.cons (.var 0) (.cons (.bin .sub true (.var 1) (.int 1)) (.cons (.var 2) .nil)))) .nil)))))
  .nil) .nil)
  (.cons (.par 7 8 (.blt .intOf true (.cons (.and (.cons (.cmp .eq (.var 2) (.int 1)) (.cons (.cmp .eq (.call .sh 201 (.cons (.var 0) (.cons (.int 2) .nil))) (.int 0)) .nil))) .nil)) (.lst false .nil))
  (.cons (.for_ (.var 4) (.rng (.cons (.bin .add true (.int 1) (.call .sh 201 (.cons (.var 0) (.cons (.int 2) .nil)))) .nil)) (.cons (.asg (.var 9) (.ite (.of (.cmp .eq (.var 7) (.int 1))) (.idx (.lst true (.cons (.str "t") (.cons (.str "u") .nil))) (.call .sh 201 (.cons (.var 0) (.cons (.int 2) .nil)))) (.call .sh 208 (.cons (.var 0) .nil))))
  (.cons (.exp (.bm .append (.var 8) (.cons (.tup (.cons (.var 9) (.cons (.call .sh 213 (.cons (.var 0) (.cons (.bin .sub true (.var 1) (.int 1)) (.cons (.int 0) .nil)))) .nil))) .nil)))
  .nil)))
  (.cons (.ret (.tup (.cons (.str "list") (.cons (.call .sh 213 (.cons (.var 0) (.cons (.bin .sub true (.var 1) (.int 1)) (.cons (.var 7) .nil)))) (.cons (.blt .tupleOf true (.cons (.var 8) .nil)) .nil)))))
  .nil)))))))))
def yV:Ss:=(.cons (.asg (.var 4) (.lst false .nil))
  (.cons (.for_ (.var 5) (.of (.str "abcd")) (.cons (.asg (.var 6) (.ite (.of (.cmp .nin (.var 5) (.var 2))) (.call .sh 201 (.cons (.var 0) (.cons (.int 7) .nil))) (.int 6)))
  (.cons (.iff (.of (.cmp .eq (.var 6) (.int 0))) (.cons (.exp (.bm .append (.var 4) (.cons (.tup (.cons (.str "global") (.cons (.var 5) .nil))) .nil)))
  .nil) (.cons (.iff (.and (.cons (.of (.cmp .lt (.var 6) (.int 3))) (.cons (.of (.cmp .inn (.var 5) (.var 3))) (.cons (.of (.cmp .ne (.var 1) (.str "module"))) .nil)))) (.cons (.exp (.bm .append (.var 4) (.cons (.tup (.cons (.str "nonlocal") (.cons (.var 5) .nil))) .nil)))
  .nil) .nil)
  .nil))
  .nil)))
  (.cons (.ret (.var 4))
  .nil)))
def zp:Ss:=(.cons (.asg (.var 5) (.call .sh 214 (.cons (.var 0) (.cons (.var 2) (.cons (.var 3) (.cons (.var 4) .nil))))))
  (.cons (.asg (.var 6) (.comp true [10] (.idx (.var 10) (.int 1)) (.var 10) (.of (.var 5)) .nil))
  (.cons (.asg (.var 7) (.comp true [11] (.var 11) (.var 11) (.of (.var 4)) (.cons (.or (.cons (.of (.cmp .eq (.var 2) (.str "class"))) (.cons (.of (.cmp .nin (.tup (.cons (.str "global") (.cons (.var 11) .nil))) (.var 5))) .nil))) .nil)))
  (.cons (.iff (.of (.cmp .eq (.var 2) (.str "function"))) (.cons (.asg (.var 9) (.comp true [11] (.var 11) (.var 11) (.of (.str "abcd")) (.cons (.and (.cons (.of (.cmp .nin (.var 11) (.var 6))) (.cons (.of (.cmp .eq (.call .sh 201 (.cons (.var 0) (.cons (.int 4) .nil))) (.int 0))) .nil))) .nil)))
  (.cons (.asg (.var 5) (.bin .add false (.var 5) (.comp true [11] (.tup (.cons (.str "set") (.cons (.var 11) (.cons (.call .sh 201 (.cons (.var 0) (.cons (.int 4) .nil))) .nil)))) (.var 11) (.of (.var 9)) .nil)))
  (.cons (.asg (.var 7) (.bin .add true (.bin .add true (.var 7) (.var 9)) (.blt .listOf true (.cons (.var 3) .nil))))
  .nil))) .nil)
  (.cons (.for_ (.var 8) (.rng (.cons (.bin .add true (.int 1) (.call .sh 201 (.cons (.var 0) (.cons (.int 4) .nil)))) .nil)) (.cons (.exp (.bm .append (.var 5) (.cons (.call .sh 216 (.cons (.var 0) (.cons (.var 1) (.cons (.var 2) (.cons (.bin .mul true (.var 7) (.blt .intOf true (.cons (.cmp .ne (.var 2) (.str "module")) .nil))) .nil))))) .nil)))
  .nil))
  (.cons (.ret (.blt .tupleOf true (.cons (.var 5) .nil)))
  .nil))))))
def zv:Ss:=(.cons (.par3 4 5 6 (.call .sh 201 (.cons (.var 0) (.cons (.int 10) .nil))) (.call .sh 208 (.cons (.var 0) .nil)) (.idx (.lst true (.cons (.int 1) (.cons (.int 2) .nil))) (.blt .intOf true (.cons (.cmp .eq (.var 2) (.str "class")) .nil))))
  (.cons (.iff (.of (.cmp .lt (.var 4) (.int 3))) (.cons (.ret (.tup (.cons (.str "set") (.cons (.var 5) (.cons (.call .sh 213 (.cons (.var 0) (.cons (.int 2) (.cons (.var 6) .nil)))) .nil)))))
  .nil) .nil)
  (.cons (.iff (.of (.cmp .eq (.var 4) (.int 3))) (.cons (.ret (.idx (.lst true (.cons (.tup (.cons (.str "del") (.cons (.var 5) .nil))) (.cons (.tup (.cons (.str "hole") .nil)) .nil))) (.call .sh 201 (.cons (.var 0) (.cons (.int 2) .nil)))))
  .nil) .nil)
  (.cons (.iff (.and (.cons (.of (.cmp .lt (.var 4) (.int 7))) (.cons (.of (.cmp .gt (.var 1) (.int 0))) .nil))) (.cons (.asg (.var 7) (.idx (.lst true (.cons (.tup (.cons (.str "a") .nil)) (.cons (.tup (.cons (.str "b") (.cons (.str "c") .nil))) (.cons (.tup .nil) (.cons (.tup (.cons (.call .sh 208 (.cons (.var 0) .nil)) .nil)) .nil))))) (.call .sh 201 (.cons (.var 0) (.cons (.int 4) .nil)))))
  (.cons (.ret (.tup (.cons (.str "def") (.cons (.var 5) (.cons (.var 7) (.cons (.call .sh 215 (.cons (.var 0) (.cons (.bin .sub true (.var 1) (.int 1)) (.cons (.str "function") (.cons (.var 7) (.cons (.var 3) .nil)))))) .nil))))))
  .nil)) .nil)
  (.cons (.iff (.and (.cons (.of (.cmp .eq (.var 4) (.int 7))) (.cons (.of (.cmp .gt (.var 1) (.int 0))) .nil))) (.cons (.ret (.tup (.cons (.str "class") (.cons (.var 5) (.cons (.call .sh 215 (.cons (.var 0) (.cons (.bin .sub true (.var 1) (.int 1)) (.cons (.str "class") (.cons (.tup .nil) (.cons (.var 3) .nil)))))) .nil)))))
  .nil) .nil)
  (.cons (.ret (.tup (.cons (.ite (.and (.cons (.of (.cmp .eq (.var 2) (.str "function"))) (.cons (.of (.cmp .eq (.var 4) (.int 8))) .nil))) (.str "return") (.str "do")) (.cons (.call .sh 213 (.cons (.var 0) (.cons (.int 2) (.cons (.var 6) .nil)))) .nil))))
  .nil))))))
def B43:Ss:=(.cons (.iff (.or (.cons (.of (.cmp .eq (.bm .get1 (.fld (.var 0) "declared") (.cons (.tup (.cons (.var 1) (.cons (.var 2) .nil))) .nil)) (.glo "GLOBAL" (.str "global")))) (.cons (.of (.cmp .eq (.var 1) (.glo "TOP" cO))) .nil))) (.cons (.ret (.glo "TOP" cO))
  .nil) .nil)
  (.cons (.ret (.ite (.of (.meth .iso 3 41 "binds" (.var 0) (.cons (.var 1) (.cons (.var 2) .nil)))) (.var 1) (.meth .iso 3 42 "outer_home" (.var 0) (.cons (.var 1) (.cons (.var 2) .nil)))))
  .nil))
def B55:Ss:=(.cons (.asg (.var 1) (.make .iso 3 (.cons (.var 0) .nil)))
  (.cons (.forG 3 49 "wrong_mentions" (.var 1) (.tup (.cons (.var 2) (.cons (.var 3) .nil))) (.cons .nvr
  .nil))
  (.cons (.ret (.var 1))
  .nil)))
def B70:Ss:=(.cons (.ret (.and (.cons (.isi (.var 0) .int) (.cons (.not (.of (.isi (.var 0) .bool))) .nil))))
  .nil)
def B71:Ss:=(.cons (.ret (.and (.cons (.call .sh 70 (.cons (.var 0) .nil)) (.cons (.chn .le .le (.var 1) (.var 0) (.var 2)) .nil))))
  .nil)
def B20:Ss:=(.cons (.asg (.fld (.var 0) "at_path") (.var 1))
  (.cons (.asg (.fld (.var 0) "block_kind") (.var 2))
  (.cons (.asg (.fld (.var 0) "kinds") (.var 3))
  (.cons (.asg (.fld (.var 0) "homes") (.var 4))
  .nil))))
def B23:Ss:=(.cons (.iff (.of (.sin true .iso 2 25 (.var 1) (.var 0))) (.cons .nvr
  .nil) .nil)
  (.cons (.ret (.idx (.fld (.var 0) "kinds") (.var 1)))
  .nil))
def B25:Ss:=(.cons (.ret (.and (.cons (.isi (.var 1) .str) (.cons (.cmp .inn (.var 1) (.fld (.var 0) "kinds")) .nil))))
  .nil)
def B30:Ss:=(.cons (.iff (.of (.sin true .iso 2 25 (.var 1) (.var 0))) (.cons .nvr
  .nil) .nil)
  (.cons (.ret (.idx (.fld (.var 0) "homes") (.var 1)))
  .nil))
def B50:Ss:=(.cons (.setDc 1 false true [3,6] (.var 3) (.dic false false .nil) (.tup (.cons (.var 3) (.cons (.var 6) .nil))) (.of (.fld (.fld (.var 0) "scan") "blocks")) .nil)
  (.cons (.for_ (.tup (.cons (.tup (.cons (.var 3) (.cons (.var 4) (.cons (.var 5) .nil)))) (.cons (.var 2) .nil))) (.zip (.fld (.fld (.var 0) "scan") "mentions") (.fld (.fld (.var 0) "scan") "seats")) (.cons (.asg (.sub (.idx (.var 1) (.var 3)) (.var 4)) (.bl true))
  (.cons (.asg (.sub (.idx (.var 1) (.var 2)) (.var 4)) (.bl true))
  .nil)))
  (.cons (.ret (.var 1))
  .nil)))
def B51:Ss:=(.cons (.asg (.var 1) (.dic false true .nil))
  (.cons (.for_ (.tup (.cons (.var 2) (.cons (.var 3) .nil))) (.of (.fld (.fld (.var 0) "scan") "walruses")) (.cons (.asg (.tup (.cons (.var 4) (.cons (.var 5) (.cons (.var 6) .nil)))) (.idx (.fld (.fld (.var 0) "scan") "mentions") (.var 2)))
  (.cons (.iff (.of (.cmp .eq (.idx (.fld (.fld (.var 0) "scan") "kinds") (.var 4)) (.glo "LIST" (.str "list")))) (.cons (.asg (.sub (.var 1) (.tup (.cons (.var 4) (.cons (.var 5) .nil)))) (.bl true))
  .nil) .nil)
  .nil)))
  (.cons (.ret (.var 1))
  .nil)))
def B52:Ss:=(.cons (.asg (.var 5) (.meth .iso 3 43 "home_in" (.var 0) (.cons (.var 1) (.cons (.var 2) .nil))))
  (.cons (.iff (.or (.cons (.of (.cmp .eq (.bm .get1 (.fld (.var 0) "declared") (.cons (.tup (.cons (.var 1) (.cons (.var 2) .nil))) .nil)) (.glo "GLOBAL" (.str "global")))) (.cons (.and (.cons (.of (.cmp .inn (.tup (.cons (.var 1) (.cons (.var 2) .nil))) (.var 4))) (.cons (.of (.cmp .eq (.var 5) (.glo "TOP" cO))) .nil))) .nil))) (.cons (.ret (.glo "GLOBAL" (.str "global")))
  .nil) .nil)
  (.cons (.iff (.and (.cons (.of (.cmp .ne (.var 5) (.glo "TOP" cO))) (.cons (.of (.cmp .ne (.var 5) (.var 1))) .nil))) (.cons (.ret (.glo "FREE" (.str "free")))
  .nil) .nil)
  (.cons (.iff (.and (.cons (.of (.cmp .eq (.var 5) (.glo "TOP" cO))) (.cons (.or (.cons (.of (.cmp .ne (.var 1) (.glo "TOP" cO))) (.cons (.not (.of (.meth .iso 3 41 "binds" (.var 0) (.cons (.var 1) (.cons (.var 2) .nil))))) .nil))) .nil))) (.cons (.ret (.glo "IMPLICIT" (.str "implicit")))
  .nil) .nil)
  (.cons (.iff (.and (.cons (.of (.cmp .nin (.idx (.fld (.fld (.var 0) "scan") "kinds") (.var 1)) (.tup (.cons (.glo "MODULE" (.str "module")) (.cons (.glo "CLASS" (.str "class")) .nil))))) (.cons (.of (.cmp .inn (.tup (.cons (.var 1) (.cons (.var 2) .nil))) (.var 3))) .nil))) (.cons (.ret (.glo "CELL" (.str "cell")))
  .nil) .nil)
  (.cons (.ret (.glo "LOCAL" (.str "local")))
  .nil))))))
def B53:Ss:=(.cons (.asg (.tup (.cons (.var 4) (.cons (.var 5) .nil))) (.tup (.cons (.meth .sh 3 50 "names_of_blocks" (.var 0) .nil) (.cons (.meth .sh 3 51 "walrus_names" (.var 0) .nil) .nil))))
  (.cons (.setDc 1 false true [6,7] (.var 6) (.dic false true .nil) (.tup (.cons (.var 6) (.cons (.var 7) .nil))) (.of (.fld (.fld (.var 0) "scan") "blocks")) .nil)
  (.cons (.asg (.var 2) (.dic false true .nil))
  (.cons (.for_ (.tup (.cons (.var 6) (.cons (.var 7) .nil))) (.of (.rev true (.fld (.fld (.var 0) "scan") "blocks"))) (.cons (.forK (.var 8) (.idx (.var 4) (.var 6)) (.cons (.asg (.var 11) (.meth .iso 3 43 "home_in" (.var 0) (.cons (.var 6) (.cons (.var 8) .nil))))
  (.cons (.iff (.and (.cons (.of (.cmp .ne (.var 11) (.glo "TOP" cO))) (.cons (.of (.cmp .ne (.var 11) (.var 6))) .nil))) (.cons (.asg (.sub (.idx (.var 1) (.var 6)) (.tup (.cons (.var 11) (.cons (.var 8) .nil)))) (.bl true))
  .nil) .nil)
  .nil)))
  (.cons (.forK (.tup (.cons (.var 11) (.cons (.var 8) .nil))) (.idx (.var 1) (.var 6)) (.cons (.iff (.of (.cmp .eq (.var 11) (.sl true (.var 6) .nil (.cons (.neg (.int 1)) .nil)))) (.cons (.asg (.sub (.var 2) (.tup (.cons (.var 11) (.cons (.var 8) .nil)))) (.bl true))
  .nil) (.cons (.asg (.sub (.idx (.var 1) (.sl true (.var 6) .nil (.cons (.neg (.int 1)) .nil))) (.tup (.cons (.var 11) (.cons (.var 8) .nil)))) (.bl true))
  (.cons (.exp (.bm .setdefault (.idx (.var 4) (.sl true (.var 6) .nil (.cons (.neg (.int 1)) .nil))) (.cons (.var 8) (.cons (.bl true) .nil))))
  .nil)))
  .nil))
  .nil)))
  (.cons (.asg (.var 3) (.dic false true .nil))
  (.cons (.for_ (.tup (.cons (.var 6) (.cons (.var 7) .nil))) (.of (.fld (.fld (.var 0) "scan") "blocks")) (.cons (.setDk 9 true false [8] (.var 8) (.meth .sh 3 52 "kind_of" (.var 0) (.cons (.var 6) (.cons (.var 8) (.cons (.var 2) (.cons (.var 5) .nil))))) (.var 8) (.idx (.var 4) (.var 6)) .nil)
  (.cons (.setDk 10 true false [8] (.var 8) (.meth .iso 3 43 "home_in" (.var 0) (.cons (.var 6) (.cons (.var 8) .nil))) (.var 8) (.idx (.var 4) (.var 6)) .nil)
  (.cons (.asg (.sub (.var 3) (.var 6)) (.make .sh 2 (.cons (.var 6) (.cons (.var 7) (.cons (.var 9) (.cons (.var 10) .nil))))))
  .nil))))
  (.cons (.ret (.var 3))
  .nil)))))))
def B56:Ss:=(.cons (.asg (.var 2) (.call .sh 55 (.cons (.var 0) .nil)))
  (.cons (.exp (.call .sh 57 (.cons (.fld (.var 2) "scan") (.cons (.var 1) .nil))))
  (.cons (.ret (.idx (.meth .iso 3 53 "by_path" (.var 2) .nil) (.var 1)))
  .nil)))
def B57:Ss:=(.cons (.iff (.or (.cons (.of (.cmp .nin (.var 1) (.comp true [2,3] (.var 2) (.tup (.cons (.var 2) (.cons (.var 3) .nil))) (.of (.fld (.var 0) "blocks")) .nil))) (.cons (.not (.of (.call .sh 58 (.cons (.var 1) .nil)))) .nil))) (.cons .nvr
  .nil) .nil)
  .nil)
def B58:Ss:=(.cons (.ret (.and (.cons (.isi (.var 0) .tuple) (.cons (.blt .allL true (.cons (.comp true [1] (.call .sh 71 (.cons (.var 1) (.cons (.int 0) (.cons (.bin .pow true (.int 10) (.int 6)) .nil)))) (.var 1) (.of (.var 0)) .nil) .nil)) .nil))))
  .nil)
end Sy
end
section
namespace K16
open PySem Ev
open Ev (E Es Ks C Cs T Ts S Ss)
abbrev AM:Ss:=Sy.B70
abbrev AO:Ss:=Sy.B71
abbrev b1:Ss:=Sy.B1
abbrev b2:Ss:=Sy.B2
abbrev b3:Ss:=Sy.B3
abbrev b4:Ss:=Sy.B4
abbrev b5:Ss:=Sy.B5
abbrev b6:Ss:=Sy.B6
abbrev b7:Ss:=Sy.B7
abbrev b8:Ss:=Sy.B8
abbrev b9:Ss:=Sy.B9
abbrev Af:Ss:=Sy.B10
abbrev z9:Ss:=Sy.B20
abbrev AY:Ss:=Sy.B23
abbrev Ay:Ss:=Sy.B25
abbrev AD:Ss:=Sy.B30
abbrev AW:Ss:=Sy.B40
abbrev AE:Ss:=Sy.B41
abbrev zF:Ss:=Sy.B42
abbrev Ah:Ss:=Sy.B43
abbrev AC:Ss:=Sy.B47
abbrev Ag:Ss:=Sy.B48
abbrev A8:Ev.Gs:=Sy.B49
abbrev AG:Ss:=Sy.B50
abbrev AL:Ss:=Sy.B51
abbrev Bb:Ss:=Sy.B52
abbrev AB:Ss:=Sy.B53
abbrev AU:Ss:=Sy.B55
abbrev zJ:Ss:=Sy.B56
abbrev Av:Ss:=Sy.B57
abbrev zV:Ss:=Sy.B58
abbrev y6:Ss:=Sy.B200
abbrev zt:Ss:=Sy.B201
def yI:Ss:=(.cons (.asg (.tup (.cons (.var 8) (.cons (.var 9) .nil))) (.tup (.cons (.tup (.cons (.str "do") (.cons (.tup (.cons (.str "name") (.cons (.str "x") .nil))) .nil))) (.cons (.tup (.cons (.str "list") (.cons (.tup (.cons (.str "name") (.cons (.str "x") .nil))) (.cons (.tup (.cons (.tup (.cons (.str "t") (.cons (.tup (.cons (.str "name") (.cons (.str "x") .nil))) .nil))) .nil)) .nil)))) .nil))))
  (.cons (.asg (.var 4) (.dic true false (.cons (.str "bind") (.tup (.cons (.tup (.cons (.str "set") (.cons (.str "x") (.cons (.int 1) .nil)))) .nil)) (.cons (.str "global") (.tup (.cons (.tup (.cons (.str "global") (.cons (.str "x") .nil))) .nil)) (.cons (.str "nonlocal") (.tup (.cons (.tup (.cons (.str "nonlocal") (.cons (.str "x") .nil))) .nil)) (.cons (.str "") (.tup .nil) .nil))))))
  (.cons (.asg (.var 5) (.tup (.cons (.var 8) (.cons (.tup (.cons (.str "def") (.cons (.str "g") (.cons (.tup .nil) (.cons (.tup (.cons (.var 8) .nil)) .nil))))) (.cons (.tup (.cons (.str "do") (.cons (.tup (.cons (.str "lambda") (.cons (.tup .nil) (.cons (.tup (.cons (.str "name") (.cons (.str "x") .nil))) .nil)))) .nil))) (.cons (.tup (.cons (.str "do") (.cons (.var 9) .nil))) .nil))))))
  (.cons (.asg (.var 5) (.bin .add true (.var 5) (.tup (.cons (.tup (.cons (.str "class") (.cons (.str "d") (.cons (.tup (.cons (.var 8) .nil)) .nil)))) .nil))))
  (.cons (.asg (.var 6) (.tup (.cons (.str "class") (.cons (.str "c") (.cons (.bin .add true (.idx (.var 4) (.var 3)) (.var 5)) .nil)))))
  (.cons (.asg (.var 7) (.tup (.cons (.str "def") (.cons (.str "h") (.cons (.bin .mul true (.tup (.cons (.str "x") .nil)) (.blt .intOf true (.cons (.var 2) .nil))) (.cons (.tup (.cons (.var 6) .nil)) .nil))))))
  (.cons (.ret (.tup (.cons (.tup (.cons (.str "def") (.cons (.str "f") (.cons (.bin .mul true (.tup (.cons (.str "x") .nil)) (.blt .intOf true (.cons (.var 1) .nil))) (.cons (.tup (.cons (.var 7) .nil)) .nil))))) .nil)))
  .nil)))))))
def iA:Ss:=(.cons (.for_ (.var 1) (.rng (.cons (.blt .max2 true (.cons (.int 2) (.cons (.blt .min2 true (.cons (.int 6) (.cons (.blt .len true (.cons (.var 0) .nil)) .nil))) .nil))) .nil)) (.cons (.asg (.var 2) (.call .liv 200 (.cons (.var 0) (.cons (.var 1) .nil))))
  (.cons (.for_ (.var 3) (.rng (.cons (.int 8) .nil)) (.cons (.par 12 13 (.cmp .eq (.call .sh 201 (.cons (.var 2) (.cons (.int 2) .nil))) (.int 0)) (.cmp .eq (.call .sh 201 (.cons (.var 2) (.cons (.int 2) .nil))) (.int 0)))
  (.cons (.asg (.var 4) (.idx (.lst true (.cons (.str "bind") (.cons (.str "global") (.cons (.str "nonlocal") (.cons (.str "") .nil))))) (.call .sh 201 (.cons (.var 2) (.cons (.int 4) .nil)))))
  (.cons (.asg (.var 5) (.ite (.of (.var 13)) (.tup (.cons (.int 0) (.cons (.int 0) .nil))) (.ite (.of (.var 12)) (.tup (.cons (.int 0) .nil)) (.tup .nil))))
  (.cons (.iff (.and (.cons (.of (.cmp .eq (.var 4) (.str "nonlocal"))) (.cons (.of (.cmp .eq (.var 5) (.tup .nil))) .nil))) (.cons .cnt
  .nil) .nil)
  (.cons (.asg (.var 6) (.call .sh 348 (.cons (.var 2) (.cons (.var 12) (.cons (.var 13) (.cons (.var 4) .nil))))))
  (.cons (.asg (.var 7) (.tup (.cons (.int 0) (.cons (.int 0) (.cons (.int 0) .nil)))))
  (.cons (.asg (.var 8) (.idx (.dic true false (.cons (.str "bind") (.var 7) (.cons (.str "global") (.tup .nil) (.cons (.str "nonlocal") (.var 5) (.cons (.str "") (.var 5) .nil))))) (.var 4)))
  (.cons (.asg (.var 9) (.idx (.dic true false (.cons (.str "bind") (.str "local") (.cons (.str "global") (.str "global") (.cons (.str "nonlocal") (.str "free") (.cons (.str "") (.str "free") .nil))))) (.var 4)))
  (.cons (.iff (.and (.cons (.of (.cmp .eq (.var 4) (.str ""))) (.cons (.of (.cmp .eq (.var 5) (.tup .nil))) .nil))) (.cons (.asg (.var 9) (.str "implicit"))
  .nil) .nil)
  (.cons (.asg (.var 10) (.call .iso 56 (.cons (.var 6) (.cons (.var 7) .nil))))
  (.cons (.iff (.of (.cmp .ne (.tup (.cons (.sidx .iso 2 23 (.var 10) (.str "x")) (.cons (.meth .iso 2 30 "home" (.var 10) (.cons (.str "x") .nil)) (.cons (.sidx .iso 2 23 (.var 10) (.str "g")) (.cons (.sidx .iso 2 23 (.var 10) (.str "d")) .nil))))) (.tup (.cons (.var 9) (.cons (.var 8) (.cons (.str "local") (.cons (.str "local") .nil))))))) (.cons (.ret (.bl false))
  .nil) .nil)
  (.cons (.for_ (.var 11) (.of (.lst true (.cons (.bin .add true (.var 7) (.tup (.cons (.int 0) .nil))) (.cons (.bin .add true (.var 7) (.tup (.cons (.int 1) .nil))) (.cons (.bin .add true (.var 7) (.tup (.cons (.int 2) .nil))) (.cons (.bin .add true (.var 7) (.tup (.cons (.int 3) .nil))) .nil)))))) (.cons (.asg (.var 14) (.tup (.cons (.ite (.of (.cmp .ne (.var 5) (.tup .nil))) (.str "free") (.str "implicit")) (.cons (.var 5) .nil))))
  (.cons (.iff (.of (.cmp .ne (.tup (.cons (.sidx .iso 2 23 (.call .iso 56 (.cons (.var 6) (.cons (.var 11) .nil))) (.str "x")) (.cons (.meth .iso 2 30 "home" (.call .iso 56 (.cons (.var 6) (.cons (.var 11) .nil))) (.cons (.str "x") .nil)) .nil))) (.var 14))) (.cons (.ret (.bl false))
  .nil) .nil)
  .nil)))
  (.cons (.iff (.of (.cmp .ne (.blt .repr true (.cons (.sin false .iso 2 25 (.str "x") (.call .iso 56 (.cons (.var 6) (.cons (.tup (.cons (.int 0) .nil)) .nil)))) .nil)) (.blt .repr true (.cons (.or (.cons (.var 12) (.cons (.cmp .eq (.var 5) (.tup (.cons (.int 0) .nil))) .nil))) .nil)))) (.cons (.ret (.bl false))
  .nil) .nil)
  (.cons (.iff (.and (.cons (.of (.var 13)) (.cons (.of (.cmp .ne (.sidx .iso 2 23 (.call .iso 56 (.cons (.var 6) (.cons (.tup (.cons (.int 0) (.cons (.int 0) .nil))) .nil))) (.str "x")) (.str "cell"))) .nil))) (.cons (.ret (.bl false))
  .nil) .nil)
  (.cons (.iff (.and (.cons (.of (.var 12)) (.cons (.of (.cmp .ne (.sidx .iso 2 23 (.call .iso 56 (.cons (.var 6) (.cons (.tup (.cons (.int 0) .nil)) .nil))) (.str "x")) (.idx (.lst true (.cons (.str "cell") (.cons (.str "local") .nil))) (.blt .intOf true (.cons (.var 13) .nil))))) .nil))) (.cons (.ret (.bl false))
  .nil) .nil)
  .nil))))))))))))))))
  .nil)))
  (.cons (.ret (.bl true))
  .nil))
def top (i:Nat):Stmt:=PySem.Challenge.pw_scopetables_k16_classes.main.body.getD i (.Pass ⟨0,0,0,0⟩)
def inn (s:Stmt) (j:Nat):Stmt:=match s with | .ClassDef _ _ _ b _ _ _ _ _ _ _=>b.getD j (.Pass ⟨0,0,0,0⟩) | _=>s
abbrev AQ:Stmt:=top 7
abbrev xK:Df:=⟨("is_integer",none),"is_integer","is_integer",AQ,["thing"],["thing"],AM,none,false,[],[],false,false⟩
abbrev zH:Stmt:=top 8
abbrev yf:Df:=⟨("is_within",none),"is_within","is_within",zH,["thing","low","high"],["thing","low","high"],AO,none,false,[],[],false,false⟩
abbrev s1:Stmt:=inn (top 24) 0
abbrev f1:Df:=⟨("Scan",some "__init__"),"__init__","Scan.__init__",s1,["self","program"],["self","program"],b1,none,false,[],[],false,false⟩
abbrev s2:Stmt:=inn (top 24) 1
abbrev f2:Df:=⟨("Scan",some "begin"),"begin","Scan.begin",s2,["self","path","kind"],["self","path","kind"],b2,none,false,[],[],false,false⟩
abbrev s3:Stmt:=inn (top 24) 2
abbrev f3:Df:=⟨("Scan",some "begin_in"),"begin_in","Scan.begin_in",s3,["self","path","kind"],["self","path","kind","index"],b3,none,false,[],[],false,false⟩
abbrev s4:Stmt:=inn (top 24) 3
abbrev f4:Df:=⟨("Scan",some "seat_of"),"seat_of","Scan.seat_of",s4,["self","path"],["self","path"],b4,none,false,[],[],false,false⟩
abbrev s5:Stmt:=inn (top 24) 4
abbrev f5:Df:=⟨("Scan",some "mention"),"mention","Scan.mention",s5,["self","path","name","role"],["self","path","name","role"],b5,none,false,[],[],false,false⟩
abbrev s6:Stmt:=inn (top 24) 5
abbrev f6:Df:=⟨("Scan",some "read_rows"),"read_rows","Scan.read_rows",s6,["self","rows","path"],["self","rows","path","row"],b6,none,false,[],[],false,false⟩
abbrev s7:Stmt:=inn (top 24) 6
abbrev f7:Df:=⟨("Scan",some "read_row"),"read_row","Scan.read_row",s7,["self","row","path"],["self","row","path","word","inside"],b7,none,false,[],[],false,false⟩
abbrev s8:Stmt:=inn (top 24) 7
abbrev f8:Df:=⟨("Scan",some "read_parameters"),"read_parameters","Scan.read_parameters",s8,["self","names","path"],["self","names","path","name"],b8,none,false,[],[],false,false⟩
abbrev s9:Stmt:=inn (top 24) 8
abbrev f9:Df:=⟨("Scan",some "read_expr"),"read_expr","Scan.read_expr",s9,["self","expr","path","in_source"],["self","expr","path","in_source","word","part","inside"],b9,none,false,[],[],false,false⟩
abbrev rO:Stmt:=inn (top 24) 9
abbrev f10:Df:=⟨("Scan",some "read_list"),"read_list","Scan.read_list",rO,["self","element","clauses","path","in_source"],["self","element","clauses","path","in_source","inside","place","name","source"],Af,none,false,[],[],false,false⟩
abbrev zW:Stmt:=inn (top 31) 0
abbrev xT:Df:=⟨("Table",some "__init__"),"__init__","Table.__init__",zW,["self","path","kind","kinds","homes"],["self","path","kind","kinds","homes"],z9,none,false,[],[],false,false⟩
abbrev AV:Stmt:=inn (top 31) 3
abbrev xj:Df:=⟨("Table",some "__getitem__"),"__getitem__","Table.__getitem__",AV,["self","name"],["self","name"],AY,none,false,[],[],false,false⟩
abbrev Ac:Stmt:=inn (top 31) 5
abbrev xX:Df:=⟨("Table",some "__contains__"),"__contains__","Table.__contains__",Ac,["self","name"],["self","name"],Ay,none,false,[],[],false,false⟩
abbrev zO:Stmt:=inn (top 31) 10
abbrev xJ:Df:=⟨("Table",some "home"),"home","Table.home",zO,["self","name"],["self","name"],AD,none,false,[],[],false,false⟩
abbrev Ae:Stmt:=inn (top 32) 0
abbrev xx:Df:=⟨("Tables",some "__init__"),"__init__","Tables.__init__",Ae,["self","program"],["self","program","seat","path","name","role"],AW,none,false,[],[],false,false⟩
abbrev A3:Stmt:=inn (top 32) 1
abbrev yb:Df:=⟨("Tables",some "binds"),"binds","Tables.binds",A3,["self","path","name"],["self","path","name"],AE,none,false,[],[],false,false⟩
abbrev An:Stmt:=inn (top 32) 2
abbrev xm:Df:=⟨("Tables",some "outer_home"),"outer_home","Tables.outer_home",An,["self","path","name"],["self","path","name","long","outer"],zF,none,false,[],[],false,false⟩
abbrev Ad:Stmt:=inn (top 32) 3
abbrev xU:Df:=⟨("Tables",some "home_in"),"home_in","Tables.home_in",Ad,["self","path","name"],["self","path","name"],Ah,none,false,[],[],false,false⟩
abbrev Ax:Stmt:=inn (top 32) 7
abbrev ym:Df:=⟨("Tables",some "wrong_walrus"),"wrong_walrus","Tables.wrong_walrus",Ax,["self","number","in_source"],["self","number","in_source","seat","path","name","role"],AC,none,false,[],[],false,false⟩
abbrev Az:Stmt:=inn (top 32) 8
abbrev yd:Df:=⟨("Tables",some "wrong_declaration"),"wrong_declaration","Tables.wrong_declaration",Az,["self","path","name","role","seen"],["self","path","name","role","seen","one"],Ag,none,false,[],[],false,false⟩
abbrev z0:Stmt:=inn (top 32) 9
abbrev wZ:Df:=⟨("Tables",some "wrong_mentions"),"wrong_mentions","Tables.wrong_mentions",z0,["self"],["self","seen","sources","number","before","reason","path","name","role"],.nil,some A8,false,[],[],false,false⟩
abbrev zI:Stmt:=inn (top 32) 10
abbrev xr:Df:=⟨("Tables",some "names_of_blocks"),"names_of_blocks","Tables.names_of_blocks",zI,["self"],["self","found","seat","path","name","role","kind"],AG,none,false,[],[],false,false⟩
abbrev Ba:Stmt:=inn (top 32) 11
abbrev xV:Df:=⟨("Tables",some "walrus_names"),"walrus_names","Tables.walrus_names",Ba,["self"],["self","found","number","in_source","path","name","role"],AL,none,false,[],[],false,false⟩
abbrev Ao:Stmt:=inn (top 32) 12
abbrev yi:Df:=⟨("Tables",some "kind_of"),"kind_of","Tables.kind_of",Ao,["self","path","name","inner","walruses"],["self","path","name","inner","walruses","home"],Bb,none,false,[],[],false,false⟩
abbrev Al:Stmt:=inn (top 32) 13
abbrev xO:Df:=⟨("Tables",some "by_path"),"by_path","Tables.by_path",Al,["self"],["self","wanted","inner","tables","found","walruses","path","kind","name","kinds","homes","home"],AB,none,false,[],[],false,false⟩
abbrev zN:Stmt:=top 33
abbrev xp:Df:=⟨("checked",none),"checked","checked",zN,["program"],["program","tables","number","reason"],AU,none,false,[],[],false,false⟩
abbrev A4:Stmt:=top 34
abbrev xH:Df:=⟨("table",none),"table","table",A4,["program","path"],["program","path","tables"],zJ,none,false,[],[],false,false⟩
abbrev AX:Stmt:=top 35
abbrev xD:Df:=⟨("check_path",none),"check_path","check_path",AX,["scan","path"],["scan","path","one","kind"],Av,none,false,[],[],false,false⟩
abbrev zM:Stmt:=top 36
abbrev xW:Df:=⟨("is_path",none),"is_path","is_path",zM,["thing"],["thing","part"],zV,none,false,[],[],false,false⟩
abbrev zd:Stmt:=top 38
abbrev f200:Df:=⟨("_law_bag",none),"_law_bag","_law_bag",zd,["_law_script","_law_at"],["_law_script","_law_at","_law_primes","_law_cell","_law_large","_law_mixed"],y6,none,false,[],[],false,false⟩
abbrev yR:Stmt:=top 39
abbrev f201:Df:=⟨("_law_take",none),"_law_take","_law_take",yR,["_law_bag_here","_law_size"],["_law_bag_here","_law_size","_law_digit"],zt,none,false,[],[],false,false⟩
abbrev zA:Stmt:=top 40
abbrev uT:Df:=⟨("_law_program",none),"_law_program","_law_program",zA,["_law_bag_here","_law_outer","_law_middle","_law_own"],["_law_bag_here","_law_outer","_law_middle","_law_own","_law_heads","_law_inner","_law_made","_law_lower","_law_say","_law_listed"],yI,none,false,[],[],false,false⟩
abbrev gJ:Stmt:=top 41
abbrev dI:Df:=⟨("law",none),"law","law",gJ,["_law_script"],["_law_script","_law_k","_law_bag_here","_law_turn","_law_own","_law_around","_law_program_here","_law_at","_law_home","_law_kind","_law_told","_law_inside","_law_outer","_law_middle","_law_due"],iA,none,false,[],[],false,false⟩
def t:Tab where
 frees:=["abs","all","bool","dict","enumerate","int","isinstance","len","max","min","range","repr","str","tuple","zip"]
 txs:=[("CELL","cell"),("CLASS","class"),("FREE","free"),("FUNCTION","function"),("GLOBAL","global"),("IMPLICIT","implicit"),("LAMBDA","lambda"),("LIST","list"),("LOCAL","local"),("MODULE","module"),("NONLOCAL","nonlocal"),("PARAMETER","parameter"),("READ","read"),("WRITE","write")]
 nts:=[]
 dks:={ ds:=[("ROLES",Sy.r_ROLES)],ts:=[("BINDING_ROLES",Sy.q_BINDING_ROLES),("DECLARING_ROLES",Sy.q_DECLARING_ROLES),("TOP",Sy.q_TOP)],cs:=[],xs:=[],xi:=[],xo:=[],xu:=[],xq:=[] }
 cls:=[(1,⟨"Scan",1,["blocks","kinds","inner","mentions","seats","targets","walruses","holes"],[("begin",2),("read_rows",6),("read_row",7),("read_expr",9),("mention",5),("begin_in",3),("read_parameters",8),("seat_of",4),("read_list",10)]⟩),(2,⟨"Table",20,["at_path","block_kind","kinds","homes"],[("__contains__",25),("__getitem__",23),("home",30)]⟩),(3,⟨"Tables",40,["scan","declared","written"],[("binds",41),("outer_home",42),("wrong_declaration",48),("wrong_walrus",47),("home_in",43),("names_of_blocks",50),("walrus_names",51),("kind_of",52),("wrong_mentions",49),("by_path",53)]⟩)]
 defs:=[(70,xK),(71,yf),(1,f1),(2,f2),(3,f3),(4,f4),(5,f5),(6,f6),(7,f7),(8,f8),(9,f9),(10,f10),(20,xT),(23,xj),(25,xX),(30,xJ),(40,xx),(41,yb),(42,xm),(43,xU),(47,ym),(48,yd),(49,wZ),(50,xr),(51,xV),(52,yi),(53,xO),(55,xp),(56,xH),(57,xD),(58,xW),(200,f200),(201,f201),(348,uT)]
 W:=200
 lw:="law"
open PySem PySem.W PySem.Calls PyProof.Rows Ev
abbrev R:OpenRow:=OpenLaw.row PySem.Challenge.rw_scopetables_k16_classes
abbrev fn:List He.DefD:=t.defs.map (fun d=>d.2.he)++[dI.he]
abbrev hk:PySem.W.Hook:=mO 4 t.fa fn t.dks
def ob (s:PySem.W.SharedT):hk.α:=kP 4 t.fa fn t.dks (HandSHeadRun.getT s)
theorem ww (s:PySem.W.SharedT):ob s=hk.obs s.abs:=tN (HandSHeadRun.getT_eq s)
def loose:List PySem.Str:=[("_wall":PySem.Str),("TableError":PySem.Str),("ScopeError":PySem.Str),("NoBlock":PySem.Str),("NoName":PySem.Str),("is_integer":PySem.Str),("is_within":PySem.Str),("MODULE":PySem.Str),("FUNCTION":PySem.Str),("CLASS":PySem.Str),("LAMBDA":PySem.Str),("LIST":PySem.Str),("READ":PySem.Str),("WRITE":PySem.Str),("DELETE":PySem.Str),("GLOBAL":PySem.Str),("NONLOCAL":PySem.Str),("PARAMETER":PySem.Str),("BINDING_ROLES":PySem.Str),("DECLARING_ROLES":PySem.Str),("ROLES":PySem.Str),("Scan":PySem.Str),("TOP":PySem.Str),("FREE":PySem.Str),("IMPLICIT":PySem.Str),("CELL":PySem.Str),("LOCAL":PySem.Str),("Table":PySem.Str),("Tables":PySem.Str),("checked":PySem.Str),("table":PySem.Str),("check_path":PySem.Str),("is_path":PySem.Str),("_law_bag":PySem.Str),("_law_take":PySem.Str),("_law_program":PySem.Str)]
theorem wH (w:World):HandSHeadRun.RunEq R (PySem.W.view R.prog [41]) hk ob 9000 loose (w.withFollow "special-get-raises" false):=by intro os;kernel_rfl
theorem wY (w:World):HandSHeadRun.RunEq R (PySem.W.view R.prog [41]) hk ob 9000 loose (w.withFollow "special-get-raises" true):=by intro os;kernel_rfl
theorem run (w:World):HandSHeadRun.RunEq R (PySem.W.view R.prog [41]) hk ob 9000 loose w:=
 PySem.W.byRow2 "special-get-raises" (P:=fun w=>HandSHeadRun.RunEq R (PySem.W.view R.prog [41]) hk ob 9000 loose w) wH wY w
end K16
end
section
namespace Ev
open PySem
structure Wd where
 P:Program
 w:World
 K:PySem.W.Frag
 mg:Str→Option Value
 cA:Nat→Addr
 fA:Nat→Addr
abbrev HH:=L2.Hp
def cw (W:Wd) (a:Addr) (xs:List (NestedKey×Addr×Value)):L2.HO:=.ext fun h=>(a == sysModules)=false∧xs.length≤PySem.sizeLine ∧
 ∃ o es ep,h.get? a=some o∧o.ExactDict∧o.data = .dict es ep∧es.toList=xs.map (entryOfKey (nestedKind W.P W.w))∧(xs.map (·.1)).Nodup
def KT (K:PySem.W.Frag) (a:Addr) (xs:List L2.V):Prop:=
 ∃ (o:Obj) (its:Array Value) (n:Nat),K.lookup a=some o∧o.cls = .type "tuple"∧o.data = .seq its n∧its.size≤PySem.sizeLine∧L2.Vals xs its.toList
def RT (W:Wd) (H:HH) (S:Addr→Prop) (a:Addr) (xs:List L2.V):Prop:=(S a∧H a=some (.tup xs))∨KT W.K a xs
def FL (W:Wd) (H:HH) (S:Addr→Prop) (a:Addr) (xs:List L2.V):Prop:=(S a∧∃ o,H a=some (.frz o (.lst xs))) ∨
 ∃ (o:Obj) (its:Array Value) (n:Nat),W.K.lookup a=some o∧o.cls = .type "list"∧o.dict=none∧o.data = .seq its n∧its.size≤PySem.sizeLine∧L2.Vals xs its.toList
inductive Sca:D→L2.V→Prop
 | non:Sca .non .non
 | bl (b):Sca (.bl b) (.bl b)
 | int (i):Sca (.int i) (.int i)
 | str (x):Sca (.str x) (.str x)
def yc (W:Wd) (a:Addr) (kvs:List (Str×D)):Prop:=(a == sysModules)=false∧∃ es n,W.K.lookup a=some ⟨.type "dict",none,.dict es n,#[]⟩∧PySem.W.KeysLit W.w.params es.toList ∧
 ∀ x,(aY kvs x=none∧PySem.W.nsIn W.K a x=some none)∨∃ d v u,aY kvs x=some d∧PySem.W.nsIn W.K a x=some (some u)∧L2.RelV v u∧Sca d v
abbrev aq:=Nat→Option Addr
inductive NK:D→NestedKey→Prop
 | non:NK .non .none
 | int (i:Int):NK (.int i) (.num i)
 | str (x:Str):NK (.str x) (.text x)
 | tnil:NK (.tup []) (.tup [])
 | tcons {d r k ks}:NK d k→NK (.tup r) (.tup ks)→NK (.tup (d :: r)) (.tup (k :: ks))
mutual
inductive RV (W:Wd) (H:HH) (S:Addr→Prop) (ρ:aq):D→L2.V→Prop
 | non:RV W H S ρ .non .non
 | bl (b):RV W H S ρ (.bl b) (.bl b)
 | int (i):RV W H S ρ (.int i) (.int i)
 | str (x):RV W H S ρ (.str x) (.str x)
 | tup {a vs xs}:RT W H S a vs→RVs W H S ρ xs vs→RV W H S ρ (.tup xs) (.ref a)
 | lst {a vs xs}:S a→H a=some (.lst vs)→RVs W H S ρ xs vs→RV W H S ρ (.lst xs) (.ref a)
 | dicK {a kvs ks}:S a→L2.Rd H a (.dK ks)→RKs W H S ρ kvs ks→RV W H S ρ (.dic false kvs) (.ref a)
 | dicT {a kvs xs}:S a→L2.Rd H a (cw W a xs)→RTs W H S ρ kvs xs→RV W H S ρ (.dic true kvs) (.ref a)
 | ins {a c dx fs gs}:S a→H a=some (.ins (W.cA c) dx gs)→RFs W H S ρ fs gs→RV W H S ρ (.ins c fs) (.ref a)
 | ref {n a}:ρ n=some a→RV W H S ρ (.ref n) (.ref a)
 | frl {a vs xs}:FL W H S a vs→RVs W H S ρ xs vs→RV W H S ρ (.frl xs) (.ref a)
 | kd {a kvs}:yc W a kvs→RV W H S ρ (.kd kvs) (.ref a)
 | fn (f):RV W H S ρ (.fn f) (.ref (W.fA f))
inductive RVs (W:Wd) (H:HH) (S:Addr→Prop) (ρ:aq):List D→List L2.V→Prop
 | nil:RVs W H S ρ [] []
 | cons {d v ds vs}:RV W H S ρ d v→RVs W H S ρ ds vs→RVs W H S ρ (d :: ds) (v :: vs)
inductive RKs (W:Wd) (H:HH) (S:Addr→Prop) (ρ:aq):List (D×D)→List (L2.Key×L2.V)→Prop
 | nil:RKs W H S ρ [] []
 | int {i d v r s}:RV W H S ρ d v→RKs W H S ρ r s→RKs W H S ρ ((.int i,d) :: r) ((.inl i,v) :: s)
 | str {x d v r s}:RV W H S ρ d v→RKs W H S ρ r s→RKs W H S ρ ((.str x,d) :: r) ((.inr x,v) :: s)
inductive RTs (W:Wd) (H:HH) (S:Addr→Prop) (ρ:aq):List (D×D)→List (NestedKey×Addr×Value)→Prop
 | nil:RTs W H S ρ [] []
 | cons {k n a d v u r s}:NK k n→n.depth≤8→RV W H S ρ k (.ref a)→RV W H S ρ d v→L2.RelV v u→RTs W H S ρ r s→RTs W H S ρ ((k,d) :: r) ((n,a,u) :: s)
inductive RFs (W:Wd) (H:HH) (S:Addr→Prop) (ρ:aq):List (Str×D)→List (Str×L2.V)→Prop
 | nil:RFs W H S ρ [] []
 | cons {x d v r s}:RV W H S ρ d v→RFs W H S ρ r s→RFs W H S ρ ((x,d) :: r) ((x,v) :: s)
end
theorem Sca.rv {d v} (s:Sca d v) (W:Wd) (H:HH) (S:Addr→Prop) (ρ:aq):RV W H S ρ d v:=by
 cases s
 ·exact .non
 ·exact .bl _
 ·exact .int _
 ·exact .str _
inductive RO (W:Wd) (H:HH) (S:Addr→Prop) (ρ:aq) (a:Addr):O→L2.HO→Prop
 | lst {xs vs}:RVs W H S ρ xs vs→RO W H S ρ a (.lst xs) (.lst vs)
 | dicK {kvs ks}:RKs W H S ρ kvs ks→RO W H S ρ a (.dic false kvs) (.dK ks)
 | dicT {kvs xs}:RTs W H S ρ kvs xs→RO W H S ρ a (.dic true kvs) (cw W a xs)
 | ins {c dx fs gs}:RFs W H S ρ fs gs→RO W H S ρ a (.ins c fs) (.ins (W.cA c) dx gs)
def bo (ρ:aq) (h:Mm) (a:Addr):Prop:=∃ n o,h.get n=some o∧ρ n=some a
structure RH (W:Wd) (H:HH) (S:Addr→Prop) (ρ:aq) (h:Mm):Prop where
 lv:∀ n o,h.get n=some o→∃ a ho,ρ n=some a∧H a=some ho∧¬ S a∧RO W H S ρ a o ho
 inj:∀ n m a o u,h.get n=some o→h.get m=some u→ρ n=some a→ρ m=some a→n=m
 nx:∀ n a,ρ n=some a→n < h.nx
 st:∀ a,S a→∃ o,H a=some o
structure Go (S:Addr→Prop) (ρ:aq) (h:Mm) (H:HH) (S':Addr→Prop) (ρ':aq) (h':Mm) (H':HH):Prop where
 sS:∀ a,S a→S' a
 sB:∀ a,S' a→S a∨H a=none∨bo ρ h a
 rr:∀ n a,ρ n=some a→ρ' n=some a
 fr:∀ a o,H a=some o→¬ bo ρ h a→H' a=some o
 lb:∀ a,bo ρ' h' a→bo ρ h a∨H a=none
theorem Go.refl {S ρ h H}:Go S ρ h H S ρ h H:=⟨fun _ x=>x,fun _ x=>.inl x,fun _ _ x=>x,fun _ _ x _=>x,fun _ x=>.inl x⟩
theorem Go.trans {S ρ h H S1 ρ1 h1 H1 S2 ρ2 h2 H2} (a:Go S ρ h H S1 ρ1 h1 H1) (b:Go S1 ρ1 h1 H1 S2 ρ2 h2 H2):Go S ρ h H S2 ρ2 h2 H2:=by
 have non:∀ x,H1 x=none→H x=none∨bo ρ h x:=fun x e=>by
  by_cases l:bo ρ h x
  ·exact .inr l
  ·cases q:H x with
   | none=>exact .inl rfl
   | some o=>have:=a.fr x o q l;rw[e]at this;cases this
 refine⟨fun x s=>b.sS x (a.sS x s),fun x s=>?_,fun n x e=>b.rr n x (a.rr n x e),fun x o e l=>?_,fun x l=>?_⟩
 ·rcases b.sB x s with q | q | q
  ·exact a.sB x q
  ·exact .inr (non x q)
  ·rcases a.lb x q with z | z
   ·exact .inr (.inr z)
   ·exact .inr (.inl z)
 ·refine b.fr x o (a.fr x o e l) fun l1=>?_
  rcases a.lb x l1 with z | z
  ·exact l z
  ·rw[e]at z;cases z
 ·rcases b.lb x l with q | q
  ·exact a.lb x q
  ·rcases non x q with z | z
   ·exact .inr z
   ·exact .inl z
section
variable {W:Wd} {H H':HH} {S S':Addr→Prop} {ρ ρ':aq}
theorem RT.mono {a xs} (h:RT W H S a xs) (s1:∀ a,S a→S' a) (s2:∀ a o,S a→H a=some o→H' a=some o):RT W H' S' a xs:=by
 rcases h with ⟨s,e⟩ | k
 ·exact .inl ⟨s1 a s,s2 a _ s e⟩
 ·exact .inr k
theorem FL.mono {a xs} (h:FL W H S a xs) (s1:∀ a,S a→S' a) (s2:∀ a o,S a→H a=some o→H' a=some o):FL W H' S' a xs:=by
 rcases h with ⟨s,o,e⟩ | k
 ·exact .inl ⟨s1 a s,o,s2 a _ s e⟩
 ·exact .inr k
mutual
theorem RV.mono' (s1:∀ a,S a→S' a) (s2:∀ a o,S a→H a=some o→H' a=some o) (rr:∀ n a,ρ n=some a→ρ' n=some a):∀ {d v},RV W H S ρ d v→RV W H' S' ρ' d v
 | _,_,.non=>.non
 | _,_,.bl b=>.bl b
 | _,_,.int i=>.int i
 | _,_,.str x=>.str x
 | _,_,.tup t r=>.tup (t.mono s1 s2) (RVs.mono' s1 s2 rr r)
 | _,_,.lst s e r=>.lst (s1 _ s) (s2 _ _ s e) (RVs.mono' s1 s2 rr r)
 | _,_,.dicK s e r=>.dicK (s1 _ s) (e.elim (fun e=>.inl (s2 _ _ s e)) fun ⟨o,e⟩=>.inr ⟨o,s2 _ _ s e⟩) (RKs.mono' s1 s2 rr r)
 | _,_,.dicT s e r=>.dicT (s1 _ s) (e.elim (fun e=>.inl (s2 _ _ s e)) fun ⟨o,e⟩=>.inr ⟨o,s2 _ _ s e⟩) (RTs.mono' s1 s2 rr r)
 | _,_,.ins s e r=>.ins (s1 _ s) (s2 _ _ s e) (RFs.mono' s1 s2 rr r)
 | _,_,.ref e=>.ref (rr _ _ e)
 | _,_,.frl t r=>.frl (t.mono s1 s2) (RVs.mono' s1 s2 rr r)
 | _,_,.kd k=>.kd k
 | _,_,.fn f=>.fn f
theorem RVs.mono' (s1:∀ a,S a→S' a) (s2:∀ a o,S a→H a=some o→H' a=some o) (rr:∀ n a,ρ n=some a→ρ' n=some a):∀ {d v},RVs W H S ρ d v→RVs W H' S' ρ' d v
 | _,_,.nil=>.nil
 | _,_,.cons a r=>.cons (RV.mono' s1 s2 rr a) (RVs.mono' s1 s2 rr r)
theorem RKs.mono' (s1:∀ a,S a→S' a) (s2:∀ a o,S a→H a=some o→H' a=some o) (rr:∀ n a,ρ n=some a→ρ' n=some a):∀ {d v},RKs W H S ρ d v→RKs W H' S' ρ' d v
 | _,_,.nil=>.nil
 | _,_,.int a r=>.int (RV.mono' s1 s2 rr a) (RKs.mono' s1 s2 rr r)
 | _,_,.str a r=>.str (RV.mono' s1 s2 rr a) (RKs.mono' s1 s2 rr r)
theorem RTs.mono' (s1:∀ a,S a→S' a) (s2:∀ a o,S a→H a=some o→H' a=some o) (rr:∀ n a,ρ n=some a→ρ' n=some a):∀ {d v},RTs W H S ρ d v→RTs W H' S' ρ' d v
 | _,_,.nil=>.nil
 | _,_,.cons n hd k a u r=>.cons n hd (RV.mono' s1 s2 rr k) (RV.mono' s1 s2 rr a) u (RTs.mono' s1 s2 rr r)
theorem RFs.mono' (s1:∀ a,S a→S' a) (s2:∀ a o,S a→H a=some o→H' a=some o) (rr:∀ n a,ρ n=some a→ρ' n=some a):∀ {d v},RFs W H S ρ d v→RFs W H' S' ρ' d v
 | _,_,.nil=>.nil
 | _,_,.cons a r=>.cons (RV.mono' s1 s2 rr a) (RFs.mono' s1 s2 rr r)
end
theorem RO.mono' {a o ho} (h:RO W H S ρ a o ho) (s1:∀ a,S a→S' a) (s2:∀ a o,S a→H a=some o→H' a=some o) (rr:∀ n a,ρ n=some a→ρ' n=some a):RO W H' S' ρ' a o ho:=by
 cases h with
 | lst r=>exact .lst (r.mono' s1 s2 rr)
 | dicK r=>exact .dicK (r.mono' s1 s2 rr)
 | dicT r=>exact .dicT (r.mono' s1 s2 rr)
 | ins r=>exact .ins (r.mono' s1 s2 rr)
variable {h h':Mm}
theorem RH.nl (R:RH W H S ρ h) {a:Addr} (s:S a):¬ bo ρ h a:=by
 rintro ⟨n,o,e,q⟩
 obtain⟨b,ho,q',_,ns,_⟩:=R.lv n o e
 rw[q]at q';cases q'
 exact ns s
theorem Go.s2 (g:Go S ρ h H S' ρ' h' H') (R:RH W H S ρ h):∀ a o,S a→H a=some o→H' a=some o:=fun a o s e=>g.fr a o e (R.nl s)
theorem RV.go {d v} (x:RV W H S ρ d v) (g:Go S ρ h H S' ρ' h' H') (R:RH W H S ρ h):RV W H' S' ρ' d v:=x.mono' g.sS (g.s2 R) g.rr
theorem RVs.go {d v} (x:RVs W H S ρ d v) (g:Go S ρ h H S' ρ' h' H') (R:RH W H S ρ h):RVs W H' S' ρ' d v:=x.mono' g.sS (g.s2 R) g.rr
structure GoW (S:Addr→Prop) (ρ:aq) (H:HH) (S':Addr→Prop) (ρ':aq) (H':HH):Prop where
 sS:∀ a,S a→S' a
 rr:∀ n a,ρ n=some a→ρ' n=some a
 s2:∀ a o,S a→H a=some o→H' a=some o
 fz:∀ a od u,H a=some (.frz od u)→H' a=some (.frz od u)
theorem GoW.refl:GoW S ρ H S ρ H:=⟨fun _ x=>x,fun _ _ x=>x,fun _ _ _ x=>x,fun _ _ _ x=>x⟩
theorem RH.nfz (R:RH W H S ρ h) {a:Addr} {od:Obj} {u:L2.HO} (e:H a=some (.frz od u)):¬ bo ρ h a:=fun ⟨n,o,en,q⟩=>by
 obtain⟨b,ho,q',eb,_,ro⟩:=R.lv n o en
 rw[q]at q';cases q'
 rw[e]at eb;cases eb
 generalize hx:L2.HO.frz od u=x at ro
 cases ro<;>(try unfold cw at hx)<;>cases hx
theorem Go.fz (g:Go S ρ h H S' ρ' h' H') (R:RH W H S ρ h):∀ a od u,H a=some (.frz od u)→H' a=some (.frz od u):=fun a od u e=>g.fr a _ e (R.nfz e)
theorem Go.w (g:Go S ρ h H S' ρ' h' H') (R:RH W H S ρ h):GoW S ρ H S' ρ' H':=⟨g.sS,g.rr,g.s2 R,g.fz R⟩
theorem RV.gow {d v} (x:RV W H S ρ d v) (g:GoW S ρ H S' ρ' H'):RV W H' S' ρ' d v:=x.mono' g.sS g.s2 g.rr
theorem RVs.gow {d v} (x:RVs W H S ρ d v) (g:GoW S ρ H S' ρ' H'):RVs W H' S' ρ' d v:=x.mono' g.sS g.s2 g.rr
theorem RVs.len:∀ {ds vs},RVs W H S ρ ds vs→ds.length=vs.length
 | _,_,.nil=>rfl
 | _,_,.cons _ r=>by simp[RVs.len r]
structure RE (W:Wd) (H:HH) (S:Addr→Prop) (ρ:aq) (env:Env) (σ:L2.St):Prop where
 len:env.length=σ.length
 at_:∀ i d,av env i=some d→∃ v,σ[i]? = some (some v)∧RV W H S ρ d v
theorem RE.go {env σ} (x:RE W H S ρ env σ) (g:Go S ρ h H S' ρ' h' H') (R:RH W H S ρ h):RE W H' S' ρ' env σ:=
 ⟨x.len,fun i d e=>let ⟨v,q,r⟩:=x.at_ i d e;⟨v,q,r.go g R⟩⟩
abbrev aN (W:Wd) (S:Addr→Prop) (ρ:aq) (h:Mm) (H:HH) (d:D) (h':Mm) (Q:L2.VK):Prop:=
 ∀ S' ρ' H' v,Go S ρ h H S' ρ' h' H'→RH W H' S' ρ' h'→RV W H' S' ρ' d v→Q v H'
def tE (W:Wd) (f:Env→Mm→Option (D×Mm)):L2.TE:=fun σ H Q=>∃ env S ρ h d h',RE W H S ρ env σ∧RH W H S ρ h∧f env h=some (d,h')∧aN W S ρ h H d h' Q
def tC (W:Wd) (f:Env→Mm→Option (Bool×Mm)):L2.TT:=fun σ H Q=>∃ env S ρ h b h',RE W H S ρ env σ∧RH W H S ρ h∧f env h=some (b,h') ∧
 ∀ S' ρ' H',Go S ρ h H S' ρ' h' H'→RH W H' S' ρ' h'→Q b H'
def bK (W:Wd) (f:Env→Mm→Option (List D×Mm)):L2.TA:=fun σ H Q=>∃ env S ρ h ds h',RE W H S ρ env σ∧RH W H S ρ h∧f env h=some (ds,h') ∧
 ∀ S' ρ' H' vs,Go S ρ h H S' ρ' h' H'→RH W H' S' ρ' h'→RVs W H' S' ρ' ds vs→Q vs H'
end
open L2 (upd upd_same upd_ne ne_of ne_of_none)
theorem jF:∀ (m:List (Nat×O)) (n:Nat) (o:O) (k:Nat),lk (jm m n o) k=if k=n then (lk m n).map fun _=>o else lk m k
 | [],n,o,k=>by simp[jm,lk]
 | (j,u) :: r,n,o,k=>by
  unfold jm
  by_cases h:j=n
  ·rw[if_pos h]
   subst h
   by_cases hk:k=j
   ·subst hk;simp[lk]
   ·simp[lk,hk,Ne.symm hk]
  ·rw[if_neg h]
   by_cases hk:k=n
   ·subst hk
    have ih:=jF r k o k
    simp only[if_pos]at ih
    simp[lk,h,ih]
   ·have ih:=jF r n o k
    rw[if_neg hk]at ih
    by_cases hj:j=k
    ·simp[lk,hj,hk]
    ·simp[lk,hj,hk,ih]
theorem sJ {h:Mm} {n k:Nat} {o:O}:(h.set n o).get k=if k=n then (h.get n).map fun _=>o else h.get k:=jF _ _ _ _
theorem dy {h:Mm} {k:Nat} {o:O}:(h.new o).2.get k=if h.nx=k then some o else h.get k:=rfl
section
variable {W:Wd} {H H':HH} {S S':Addr→Prop} {ρ ρ':aq} {h h':Mm} {p a:Addr} {o:O} {ho:L2.HO} {n:Nat}
def Sp (S:Addr→Prop) (p:Addr):Addr→Prop:=fun a=>S a∨a=p
def aG (ρ:aq) (n:Nat) (p:Addr):aq:=fun k=>if k=n then some p else ρ k
theorem bS {q:Addr} {x:L2.HO} (hp:H p=none) (e:H q=some x):upd H p ho q=some x:=by rw[upd_ne (ne_of_none e hp)];exact e
theorem ff (R:RH W H S ρ h) (hp:H p=none):Go S ρ h H (Sp S p) ρ h (upd H p ho)∧RH W (upd H p ho) (Sp S p) ρ h:=by
 have notlive:∀ n' o' b,h.get n' = some o'→ρ n' = some b→b≠p:=fun n' o' b e q=>by
  obtain⟨b',ho',q',e',_,_⟩:=R.lv n' o' e
  rw[q]at q';cases q'
  exact ne_of_none e' hp
 refine⟨⟨fun _ x=>.inl x,fun b x=>?_,fun _ _ x=>x,fun b u e l=>bS hp e,fun b l=>.inl l⟩,⟨fun n' o' e=>?_,R.inj,R.nx,fun b x=>?_⟩⟩
 ·rcases x with x | rfl
  ·exact .inl x
  ·exact .inr (.inl hp)
 ·obtain⟨b,hb,q,e',ns,r⟩:=R.lv n' o' e
  refine⟨b,hb,q,bS hp e',fun z=>?_,r.mono' (fun _ z=>.inl z) (fun _ _ _ e=>bS hp e) fun _ _ e=>e⟩
  rcases z with z | z
  ·exact ns z
  ·exact notlive n' o' b e q z
 ·rcases x with x | rfl
  ·obtain⟨u,e⟩:=R.st b x
   exact⟨u,bS hp e⟩
  ·exact⟨ho,upd_same⟩
theorem my (R:RH W H S ρ h) (hp:H p=none) (ro:RO W H S ρ p o ho):Go S ρ h H S (aG ρ h.nx p) (h.new o).2 (upd H p ho)∧RH W (upd H p ho) S (aG ρ h.nx p) (h.new o).2:=by
 have fresh:ρ h.nx=none:=by
  cases q:ρ h.nx with
  | none=>rfl
  | some b=>exact absurd (R.nx _ _ q) (Nat.lt_irrefl _)
 have old:∀ m b,ρ m=some b→aG ρ h.nx p m=some b:=fun m b q=>by
  unfold aG
  rw[if_neg (fun z=>by rw[z,fresh]at q;cases q)]
  exact q
 have getold:∀ m u,h.get m=some u→m≠h.nx:=fun m u e z=>by
  obtain⟨b,_,q,_⟩:=R.lv m u e
  exact absurd (R.nx _ _ q) (by omega)
 have notlive:∀ n' o' b,h.get n' = some o'→ρ n' = some b→b≠p:=fun n' o' b e q=>by
  obtain⟨b',ho',q',e',_,_⟩:=R.lv n' o' e
  rw[q]at q';cases q'
  exact ne_of_none e' hp
 have live:∀ m u b,(h.new o).2.get m=some u→aG ρ h.nx p m=some b→(m=h.nx∧u=o∧b=p)∨(m≠h.nx∧h.get m=some u∧ρ m=some b):=fun m u b e q=>by
  rw[dy]at e
  by_cases z:h.nx=m
  ·rw[if_pos z]at e;cases e
   subst z
   unfold aG at q
   rw[if_pos rfl]at q;cases q
   exact .inl ⟨rfl,rfl,rfl⟩
  ·rw[if_neg z]at e
   unfold aG at q
   rw[if_neg (Ne.symm z)]at q
   exact .inr ⟨Ne.symm z,e,q⟩
 refine⟨⟨fun _ x=>x,fun b x=>.inl x,old,fun b u e l=>bS hp e,fun b l=>?_⟩,⟨fun m u e=>?_,fun m k b u u' e1 e2 q1 q2=>?_,fun m b q=>?_,fun b x=>?_⟩⟩
 ·obtain⟨m,u,e,q⟩:=l
  rcases live m u b e q with ⟨_,_,rfl⟩ | ⟨_,e,q⟩
  ·exact .inr hp
  ·exact .inl ⟨m,u,e,q⟩
 ·rw[dy]at e
  by_cases z:h.nx=m
  ·rw[if_pos z]at e;cases e
   subst z
   refine⟨p,ho,by unfold aG;rw[if_pos rfl],upd_same,fun s=>?_,ro.mono' (fun _ z=>z) (fun _ _ _ e=>bS hp e) old⟩
   obtain⟨w,e⟩:=R.st p s
   rw[hp]at e;cases e
  ·rw[if_neg z]at e
   obtain⟨b,hb,q,e',ns,r⟩:=R.lv m u e
   exact⟨b,hb,old m b q,bS hp e',ns,r.mono' (fun _ z=>z) (fun _ _ _ e=>bS hp e) old⟩
 ·rcases live m u b e1 q1 with ⟨z1,_,z2⟩ | ⟨z1,e3,q3⟩
  ·rcases live k u' b e2 q2 with ⟨z3,_,_⟩ | ⟨_,e4,q4⟩
   ·rw[z1,z3]
   ·exact absurd z2 (notlive k u' b e4 q4)
  ·rcases live k u' b e2 q2 with ⟨_,_,z2⟩ | ⟨_,e4,q4⟩
   ·exact absurd z2 (notlive m u b e3 q3)
   ·exact R.inj m k b u u' e3 e4 q3 q4
 ·unfold aG at q
  show m < h.nx + 1
  split at q
  ·omega
  ·have:=R.nx m b q;omega
 ·obtain⟨u,e⟩:=R.st b x
  exact⟨u,bS hp e⟩
theorem dc {o':O} {ho':L2.HO} (R:RH W H S ρ h) (hn:h.get n=some o) (q:ρ n=some a) (ro:∀ H',(∀ b u,S b→H b=some u→H' b=some u)→RO W H' S ρ a o' ho'):
  Go S ρ h H S ρ (h.set n o') (upd H a ho')∧RH W (upd H a ho') S ρ (h.set n o'):=by
 obtain⟨a',hoa,qa,ea,nsa,_⟩:=R.lv n o hn
 rw[q]at qa;cases qa
 have keepS:∀ b u,S b→H b=some u→upd H a ho' b=some u:=fun b u s e=>by
  rw[upd_ne (fun (z:b=a)=>nsa (z ▸ s))];exact e
 have live:∀ m u,(h.set n o').get m=some u→(m=n∧u=o')∨(m≠n∧h.get m=some u):=fun m u e=>by
  rw[sJ]at e
  by_cases z:m=n
  ·rw[if_pos z,hn]at e
   exact .inl ⟨z,(Option.some.inj e).symm⟩
  ·rw[if_neg z]at e
   exact .inr ⟨z,e⟩
 refine⟨⟨fun _ x=>x,fun b x=>.inl x,fun _ _ x=>x,fun b u e l=>?_,fun b l=>?_⟩,⟨fun m u e=>?_,fun m k b u u' e1 e2 q1 q2=>?_,R.nx,fun b s=>?_⟩⟩
 ·rw[upd_ne (fun (z:b=a)=>l ⟨n,o,hn,z ▸ q⟩)];exact e
 ·obtain⟨m,u,e,q'⟩:=l
  rcases live m u e with ⟨rfl,_⟩ | ⟨_,e⟩
  ·exact .inl ⟨m,o,hn,q'⟩
  ·exact .inl ⟨m,u,e,q'⟩
 ·rcases live m u e with ⟨rfl,rfl⟩ | ⟨z,e⟩
  ·exact⟨a,ho',q,upd_same,nsa,ro _ keepS⟩
  ·obtain⟨b,hb,qb,eb,nsb,r⟩:=R.lv m u e
   refine⟨b,hb,qb,?_,nsb,r.mono' (fun _ z=>z) keepS fun _ _ e=>e⟩
   rw[upd_ne (fun (w:b=a)=>z (R.inj m n b u o e hn qb (w ▸ q)))];exact eb
 ·rcases live m u e1 with ⟨rfl,_⟩ | ⟨_,e3⟩
  ·rcases live k u' e2 with ⟨rfl,_⟩ | ⟨_,e4⟩
   ·rfl
   ·exact R.inj _ _ b _ _ hn e4 q1 q2
  ·rcases live k u' e2 with ⟨rfl,_⟩ | ⟨_,e4⟩
   ·exact R.inj _ _ b _ _ e3 hn q1 q2
   ·exact R.inj m k b u u' e3 e4 q1 q2
 ·obtain⟨u,e⟩:=R.st b s
  exact⟨u,keepS b u s e⟩
theorem ad {d v} {Q:L2.VK} (R:RH W H S ρ h) (w:aN W S ρ h H d h Q) (r:RV W H S ρ d v):Q v H:=w S ρ H v .refl R r
theorem cZ {ds vs} {Q:L2.VK} (R:RH W H S ρ h) (w:aN W S ρ h H (.tup ds) h Q) (r:RVs W H S ρ ds vs) (hp:H p=none):Q (.ref p) (upd H p (.tup vs)):=by
 obtain⟨g,R'⟩:=ff (ho:=.tup vs) R hp
 exact w _ _ _ _ g R' (.tup (.inl ⟨.inr rfl,upd_same⟩) (r.go g R))
theorem dA {z:Bool} {ds vs} {Q:L2.VK} (R:RH W H S ρ h) (w:aN W S ρ h H (bj z (.lst ds) h).1 (bj z (.lst ds) h).2 Q) (r:RVs W H S ρ ds vs) (hp:H p=none):Q (.ref p) (upd H p (.lst vs)):=by
 cases z with
 | true=>
  obtain⟨g,R'⟩:=ff (ho:=.lst vs) R hp
  exact w _ _ _ _ g R' (.lst (.inr rfl) upd_same (r.go g R))
 | false=>
  obtain⟨g,R'⟩:=my (o:=.lst ds) (ho:=.lst vs) R hp (.lst r)
  exact w _ _ _ _ g R' (.ref (by unfold aG;rw[if_pos rfl]))
theorem lg {z:Bool} {Q:L2.VK} (R:RH W H S ρ h) (w:aN W S ρ h H (bj z o h).1 (bj z o h).2 Q) (ro:∀ H' S' ρ',(∀ a,S a→S' a)→(∀ b u,S b→H b=some u→H' b=some u)→(∀ n a,ρ n=some a→ρ' n=some a)→RO W H' S' ρ' p o ho) (hp:H p=none):Q (.ref p) (upd H p ho):=by
 cases z with
 | true=>
  obtain⟨g,R'⟩:=ff (ho:=ho) R hp
  refine w _ _ _ _ g R' ?_
  have ro':=ro (upd H p ho) (Sp S p) ρ (fun _ x=>.inl x) (fun _ _ _ e=>bS hp e) fun _ _ e=>e
  cases ro' with
  | lst r=>exact .lst (.inr rfl) upd_same r
  | dicK r=>exact .dicK (.inr rfl) (.inl upd_same) r
  | dicT r=>exact .dicT (.inr rfl) (.inl upd_same) r
  | ins r=>exact .ins (.inr rfl) upd_same r
 | false=>
  obtain⟨g,R'⟩:=my (o:=o) (ho:=ho) R hp (ro H S ρ (fun _ x=>x) (fun _ _ _ e=>e) fun _ _ e=>e)
  exact w _ _ _ _ g R' (.ref (by unfold aG;rw[if_pos rfl]))
end
open PySem PySem.Spec PyProof.Rows
open L2 (upd Cx VK OpR SqT R2 RelV Inv)
theorem mC (l:Addr) (items:Array Value) (n:Nat) (dd:Option Addr) (sl:Array (Option Value)) (x:Int) (u:Tok) (c0:(decide (x < -(2 ^ 63))||decide (x ≥ 2 ^ 63))=false) (c1:(items.isEmpty||x == 1)=true):
  Meets (Builtin.«tuple.__mul__» ⟨[.ref l,.int x u],[]⟩) (fun _ R s=>s.heap.get? l=some { cls:=.type "tuple",dict:=dd,data:=.seq items n,slots:=sl } ∧
   R (.ok (.ret (Value.ref l))) s):=
 .of_wp fun prog w A R s h=>by
  obtain⟨hp,g,d,tk,os⟩:=s
  obtain⟨hl,h⟩:=h
  have f1:=AutoSeq1.idx_int
  wp_walk using wpAny_loadPart' hl
  repeat (first
   | (refine wpAny_ite_false (decide_eq_false (by rw[c0];exact Bool.false_ne_true)) ?_;wp_walk using wpAny_loadPart' hl)
   | (refine wpAny_ite_true (decide_eq_true (by rw[c1])) ?_;wp_walk using wpAny_loadPart' hl))
  exact⟨_,rfl,h⟩
theorem ni (l:Addr) (items:Array Value) (n:Nat) (dd:Option Addr) (sl:Array (Option Value)) (x:Int) (u:Tok) (c0:(decide (x < -(2 ^ 63))||decide (x ≥ 2 ^ 63))=false) (c1:(items.isEmpty||x == 1)=false) (c2:(decide (x≤0)||items.isEmpty)=true):
  Meets (Builtin.«tuple.__mul__» ⟨[.ref l,.int x u],[]⟩) (fun _ R s=>s.heap.get? l=some { cls:=.type "tuple",dict:=dd,data:=.seq items n,slots:=sl } ∧
   R (.ok (.ret (Value.ref s.heap.objs.size))) { s with heap:=s.heap.push { cls:=Value.type "tuple",data:=Data.seq #[] },toks:=s.toks }):=
 .of_wp fun prog w A R s h=>by
  obtain⟨hp,g,d,tk,os⟩:=s
  obtain⟨hl,h⟩:=h
  have f1:=AutoSeq1.idx_int
  wp_walk using wpAny_loadPart' hl
  repeat (first
   | (refine wpAny_ite_false (decide_eq_false (by rw[c0];exact Bool.false_ne_true)) ?_;wp_walk using wpAny_loadPart' hl)
   | (refine wpAny_ite_false (decide_eq_false (by rw[c1];exact Bool.false_ne_true)) ?_;wp_walk using wpAny_loadPart' hl)
   | (refine wpAny_ite_true (decide_eq_true (by rw[c2])) ?_;wp_walk using wpAny_loadPart' hl))
  exact⟨_,rfl,h⟩
def vf (K:PySem.W.Frag):R2:=fun x y H Q=>∃ l k xs,x = .ref l∧y = .int k∧SqT K H l xs∧-(2 ^ 62)≤k∧k≤1000∧(((xs=[]∨k=1)∧Q (.ref l) H)∨(xs≠[]∧k≤0∧∀ p,H p=none→Q (.ref p) (upd H p (.tup []))))
section
variable {X:Cx}
theorem kF:OpR X (binaryOp .Mult) (vf X.K):=by
 intro pins s σ H x y v u Q I rx ry h
 obtain⟨l,k,xs,rfl,rfl,hT,h1,h2,h⟩:=h
 cases rx
 obtain⟨t,rfl⟩:=ry
 obtain⟨its,r,⟨⟨cls,dd,data,sl⟩,ho,hc,n,hd⟩,hs⟩:=I.tuple hT
 simp only at hc hd
 subst hc hd
 have hle:its.length=xs.length:=r.length.symm
 have c0:(decide (k < -(2 ^ 63))||decide (k ≥ 2 ^ 63))=false:=by
  rw[decide_eq_false (by omega),decide_eq_false (by omega)]<;>rfl
 have hi:its.toArray.isEmpty=decide (xs=[]):=by
  cases its with
  | nil=>
   have:xs=[]:=List.eq_nil_of_length_eq_zero hle.symm
   rw[this];rfl
  | cons a b=>
   have:xs≠[]:=fun e=>by rw[e]at hle;cases hle
   rw[decide_eq_false this];rfl
 rcases h with ⟨hc,q⟩ | ⟨hne,hk,q⟩
 ·have c1:(its.toArray.isEmpty||k == 1)=true:=by
   rw[hi]
   rcases hc with e | e
   ·rw[decide_eq_true e];rfl
   ·rw[beq_iff_eq.mpr e,Bool.or_true]
  refine wpAny_binaryOp_repeat_ref (T:="tuple") (U:="int") (by decide) ⟨_,ho,rfl⟩ (fun s'=>typeIs_int s' k t) L2.noFill_tuple_mul F.fills_int_mul F.slot_int_rmul L2.repeat_tuple F.slot_int_index.lookup
   (call_meets F.slot_int_rmul (typeIs_int s k t) F.entry_int_rmul (F.args_int_rmul_2 _ _) (L2.int_rmul_tuple k t l its.toArray n dd sl)
    ⟨ho,rfl,⟨_,ho,rfl⟩,call_meets F.slot_tuple_mul ⟨_,ho,rfl⟩ F.entry_tuple_mul (F.args_tuple_mul_2 _ _) (mC l its.toArray n dd sl k t c0 c1) ⟨ho,?_⟩⟩)
  exact⟨.ref l,H,I,rfl,q⟩
 ·have c1:(its.toArray.isEmpty||k == 1)=false:=by
   rw[hi,decide_eq_false hne,Bool.false_or]
   exact beq_eq_false_iff_ne.mpr (by omega)
  have c2:(decide (k≤0)||its.toArray.isEmpty)=true:=by
   rw[decide_eq_true hk];rfl
  refine wpAny_binaryOp_repeat_ref (T:="tuple") (U:="int") (by decide) ⟨_,ho,rfl⟩ (fun s'=>typeIs_int s' k t) L2.noFill_tuple_mul F.fills_int_mul F.slot_int_rmul L2.repeat_tuple F.slot_int_index.lookup
   (call_meets F.slot_int_rmul (typeIs_int s k t) F.entry_int_rmul (F.args_int_rmul_2 _ _) (L2.int_rmul_tuple k t l its.toArray n dd sl)
    ⟨ho,rfl,⟨_,ho,rfl⟩,call_meets F.slot_tuple_mul ⟨_,ho,rfl⟩ F.entry_tuple_mul (F.args_tuple_mul_2 _ _) (ni l its.toArray n dd sl k t c0 c1 c2) ⟨ho,?_⟩⟩)
  refine⟨.ref s.heap.objs.size,_,I.laid (t':=s.toks) (o:=.tup []) (fun b ob q=>Heap.get?_push_of_some _ q) (Nat.le_refl _) ?_,rfl,q _ (I.hok.fresh (Nat.le_refl _))⟩
  exact⟨Nat.zero_le _,_,.nil,IsTup.new _ _⟩
end
open L2 (upd upd_same upd_ne ne_of ne_of_none Cx VK OpR SqL SqT Key kV)
theorem sZ:most=sizeLine:=by rw[sizeLine_eq];rfl
theorem aK {n:Nat} (h:Nat.ble n most=true):n≤sizeLine:=by rw[← sZ];exact Nat.le_of_ble_eq_true h
theorem gZ (n d:Nat) (o:Option Int):sIx n d o=HT.sIx n d o:=by cases o<;>rfl
theorem nz {α:Type} (n:Nat) (xs:List α):rep n xs=(List.replicate n xs).flatten:=by
 induction n with
 | zero=>rfl
 | succ n ih=>simp[rep,List.replicate_succ,ih]
structure XW (W:Wd) (X:Cx):Prop where
 P:X.prog=W.P
 w:X.w=W.w
 K:X.K=W.K
 mg:X.mg=W.mg
 calm:X.calm=true
 un:X.A.units + 200 < cLine
section
variable {W:Wd} {H H':HH} {S S':Addr→Prop} {ρ ρ':aq} {h h':Mm} {X:Cx}
theorem RT.sq {a xs} (t:RT W H S a xs) (e:X.K=W.K):SqT X.K H a xs:=by
 rcases t with ⟨_,e1⟩ | k
 ·exact .inl (.inl e1)
 ·rw[e];exact .inr k
theorem XW.sq (xw:XW W X) {H:HH} {a vs} (c:SqL W.K H a vs):SqL X.K H a vs:=by rw[xw.K];exact c
theorem FL.sq {a xs} (t:FL W H S a xs):SqL W.K H a xs:=by
 rcases t with ⟨_,o,e1⟩ | k
 ·exact .inl (.inr ⟨o,e1⟩)
 ·exact .inr k
theorem bG {d v xs} (e:listOf h d=some xs) (R:RH W H S ρ h) (r:RV W H S ρ d v):∃ a vs,v = .ref a∧H a=some (.lst vs)∧RVs W H S ρ xs vs:=by
 cases d with
 | lst ys=>cases e;cases r with | lst s e r=>exact⟨_,_,rfl,e,r⟩
 | ref n=>
  cases r with
  | ref q=>
   simp only[listOf]at e
   split at e
   ·cases e
    rename_i ys g
    obtain⟨a,ho,q',e',_,ro⟩:=R.lv _ _ g
    rw[q]at q';cases q'
    cases ro with | lst r=>exact⟨_,_,rfl,e',r⟩
   ·cases e
 | _=>cases e
theorem mZ {d v xs} (e:bN h d=some xs) (R:RH W H S ρ h) (r:RV W H S ρ d v):∃ a vs,v = .ref a∧RVs W H S ρ xs vs∧(SqL W.K H a vs∨RT W H S a vs):=by
 cases d with
 | tup ys=>cases e;cases r with | tup t r=>exact⟨_,_,rfl,r,.inr t⟩
 | lst ys=>cases e;cases r with | lst s e r=>exact⟨_,_,rfl,r,.inl (SqL.of e)⟩
 | frl ys=>cases e;cases r with | frl t r=>exact⟨_,_,rfl,r,.inl t.sq⟩
 | ref n=>
  obtain⟨a,vs,e1,e2,e3⟩:=bG (d:=.ref n) (by simpa [listOf,bN] using e) R r
  exact⟨a,vs,e1,e3,.inl (SqL.of e2)⟩
 | _=>cases e
theorem eU {d v t kvs} (e:dictOf h d=some (t,kvs)) (R:RH W H S ρ h) (r:RV W H S ρ d v):
  ∃ a,v = .ref a∧((t=false∧∃ ks,L2.Rd H a (.dK ks)∧RKs W H S ρ kvs ks)∨(t=true∧∃ xs,L2.Rd H a (cw W a xs)∧RTs W H S ρ kvs xs)):=by
 cases d with
 | dic t' ks=>
  cases e
  cases r with
  | dicK s e r=>exact⟨_,rfl,.inl ⟨rfl,_,e,r⟩⟩
  | dicT s e r=>exact⟨_,rfl,.inr ⟨rfl,_,e,r⟩⟩
 | ref n=>
  cases r with
  | ref q=>
   simp only[dictOf]at e
   split at e
   ·cases e
    rename_i g
    obtain⟨a,ho,q',e',_,ro⟩:=R.lv _ _ g
    rw[q]at q';cases q'
    cases ro with
    | dicK r=>exact⟨_,rfl,.inl ⟨rfl,_,.inl e',r⟩⟩
    | dicT r=>exact⟨_,rfl,.inr ⟨rfl,_,.inl e',r⟩⟩
   ·cases e
 | _=>cases e
theorem fB {d v c fs} (e:aO h d=some (c,fs)) (R:RH W H S ρ h) (r:RV W H S ρ d v):∃ a dx gs,v = .ref a∧H a=some (.ins (W.cA c) dx gs)∧RFs W H S ρ fs gs:=by
 cases d with
 | ins c' gs=>cases e;cases r with | ins s e r=>exact⟨_,_,_,rfl,e,r⟩
 | ref n=>
  cases r with
  | ref q=>
   simp only[aO]at e
   split at e
   ·cases e
    rename_i g
    obtain⟨a,ho,q',e',_,ro⟩:=R.lv _ _ g
    rw[q]at q';cases q'
    cases ro with | ins r=>exact⟨_,_,_,rfl,e',r⟩
   ·cases e
 | _=>cases e
theorem RVs.get:∀ {xs:List D} {vs:List L2.V} {i:Nat} {d:D},RVs W H S ρ xs vs→cW xs i=some d→∃ v,vs[i]? = some v∧RV W H S ρ d v
 | _,_,_,_,.nil,e=>by simp[cW]at e
 | _,_,0,_,.cons r _,e=>by simp[cW]at e;subst e;exact⟨_,rfl,r⟩
 | _,_,i + 1,d,.cons _ t,e=>by
  obtain⟨v,h1,h2⟩:=RVs.get (i:=i) (d:=d) t (by simpa [cW] using e)
  exact⟨v,by simpa using h1,h2⟩
theorem RVs.append {xs ys vs us}:RVs W H S ρ xs vs→RVs W H S ρ ys us→RVs W H S ρ (xs++ys) (vs++us)
 | .nil,s=>s
 | .cons r t,s=>.cons r (RVs.append t s)
theorem RVs.rep {xs vs} (r:RVs W H S ρ xs vs):∀ n,RVs W H S ρ (Ev.rep n xs) (Ev.rep n vs)
 | 0=>.nil
 | n + 1=>r.append (r.rep n)
theorem RVs.drop:∀ {xs vs} (n:Nat),RVs W H S ρ xs vs→RVs W H S ρ (xs.drop n) (vs.drop n)
 | _,_,0,r=>r
 | _,_,_ + 1,.nil=>.nil
 | _,_,n + 1,.cons _ t=>RVs.drop n t
theorem RVs.take:∀ {xs vs} (n:Nat),RVs W H S ρ xs vs→RVs W H S ρ (xs.take n) (vs.take n)
 | _,_,0,_=>.nil
 | _,_,_ + 1,.nil=>.nil
 | _,_,n + 1,.cons r t=>.cons r (RVs.take n t)
theorem RVs.set {d v} (r:RV W H S ρ d v):∀ {xs vs} (i:Nat),RVs W H S ρ xs vs→RVs W H S ρ (xs.set i d) (vs.set i v)
 | _,_,_,.nil=>.nil
 | _,_,0,.cons _ t=>.cons r t
 | _,_,i + 1,.cons q t=>.cons q (RVs.set r i t)
theorem RVs.cut {xs vs} (r:RVs W H S ρ xs vs) (lo hi:Option Int):RVs W H S ρ (Ev.cut xs lo hi) (L2.cutV vs lo hi):=by
 unfold Ev.cut L2.cutV
 rw[r.len,gZ,gZ]
 exact (r.drop _).take _
def rB (W:Wd) (f:D→D→Mm→Option (D×Mm)):L2.R2:=fun x y H Q=>∃ S ρ h d e r h',RV W H S ρ d x∧RV W H S ρ e y∧RH W H S ρ h∧f d e h=some (r,h')∧aN W S ρ h H r h' Q
def iB:Op→Operator
 | .add=>.Add | .sub=>.Sub | .mul=>.Mult | .fdiv=>.FloorDiv | .mod=>.Mod | .pow=>.Pow
theorem aa {α:Type} {b:Bool} {x:Option α} {y:α} (h:(bif b then x else none)=some y):b=true∧x=some y:=by
 cases b with
 | true=>exact⟨rfl,h⟩
 | false=>cases h
theorem bw {α β:Type} {p:α×β} {a:α} {b:β} (h:some p=some (a,b)):a=p.1∧b=p.2:=by cases h;exact⟨rfl,rfl⟩
theorem eB {i:Int} (h:cj i=true):-(2 ^ 64) < i∧i < 2 ^ 64:=by simpa [cj] using h
theorem ie (a:Array Nat):∀ (n:Nat) (b:Array Nat),((List.replicate n a).foldl (·++·) b).size=b.size + n * a.size
 | 0,b=>by simp
 | n + 1,b=>by
  rw[List.replicate_succ,List.foldl_cons,ie a n (b++a),Array.size_append,Nat.succ_mul]
  omega
theorem zw (xw:XW W X) (o:Op) (z:Bool):OpR X (binaryOp (iB o)) (rB W (cV o z)):=by
 rintro pins s σ H x y v u Q I rx ry ⟨S,ρ,h,d,e,r,h',Rd,Re,R,hf,wq⟩
 have hK:=xw.K
 unfold cV at hf
 split at hf
 ·cases Rd;cases Re;cases hf;exact L2.op_add pins s σ H _ _ v u Q I rx ry ⟨_,_,rfl,rfl,ad R wq (.int _)⟩
 ·cases Rd;cases Re;cases hf;exact L2.op_sub pins s σ H _ _ v u Q I rx ry ⟨_,_,rfl,rfl,ad R wq (.int _)⟩
 ·cases Rd;cases Re;cases hf
  rename_i a j
  cases rx
  obtain⟨t,rfl⟩:=ry
  have e:(Ev.b2i a + j:Int)=(if a=true then (1:Int) else 0) + j:=by cases a<;>rfl
  exact PySem.IntBool.add_bool_int ⟨.int _,H,I.tok _,⟨_,rfl⟩,by rw[← e];exact ad R wq (.int _)⟩
 ·cases Rd;cases Re;cases hf
  rename_i a j
  cases rx
  obtain⟨t,rfl⟩:=ry
  have e:(Ev.b2i a - j:Int)=(if a=true then (1:Int) else 0) - j:=by cases a<;>rfl
  exact PySem.IntBool.sub_bool_int ⟨.int _,H,I.tok _,⟨_,rfl⟩,by rw[← e];exact ad R wq (.int _)⟩
 ·cases Rd;cases Re
  obtain⟨hc,hf⟩:=aa hf
  cases hf
  refine L2.op_mul pins s σ H _ _ v u Q I rx ry ⟨_,_,rfl,rfl,?_,ad R wq (.int _)⟩
  rcases Bool.or_eq_true_iff.mp hc with q | q
  ·exact .inl (eB q)
  ·exact .inr (eB q)
 ·cases Rd;cases Re
  obtain⟨hc,hf⟩:=aa hf
  cases hf
  simp only[Bool.and_eq_true,decide_eq_true_eq]at hc
  exact L2.op_fdiv pins s σ H _ _ v u Q I rx ry ⟨_,_,rfl,rfl,hc,ad R wq (.int _)⟩
 ·cases Rd;cases Re
  obtain⟨hc,hf⟩:=aa hf
  cases hf
  simp only[decide_eq_true_eq]at hc
  exact L2.op_mod pins s σ H _ _ v u Q I rx ry ⟨_,_,rfl,rfl,hc,ad R wq (.int _)⟩
 ·cases Rd;cases Re
  obtain⟨hc,hf⟩:=aa hf
  cases hf
  simp only[Bool.and_eq_true,decide_eq_true_eq]at hc
  obtain⟨⟨h1,h2⟩,h3⟩:=hc
  have h4:=eB h3
  exact L2.op_pow pins s σ H _ _ v u Q I rx ry ⟨_,_,rfl,rfl,⟨h1,by omega,by omega⟩,ad R wq (.int _)⟩
 ·cases Rd;cases Re
  obtain⟨hc,hf⟩:=aa hf
  cases hf
  exact L2.op_add_str pins s σ H _ _ v u Q I rx ry ⟨_,_,rfl,rfl,aK hc,ad R wq (.str _)⟩
 ·obtain⟨hc,hf⟩:=aa hf
  cases hf
  cases Rd with
  | tup ta ra=>
   cases Re with
   | tup tb rb=>
    rename_i a vs b us
    refine L2.op_catA pins s σ H _ _ v u Q I rx ry ⟨_,_,_,_,rfl,rfl,ta.sq hK,tb.sq hK,by rw[← ra.len,← rb.len];exact aK hc,fun e=>?_,fun _ e=>?_,fun _ _ p hp=>cZ R wq (ra.append rb) hp⟩
    ·subst e;cases ra;exact ad R wq (.tup tb rb)
    ·subst e;cases rb;exact ad R wq (by rw[List.append_nil];exact .tup ta ra)
 ·obtain⟨hc,hf⟩:=aa hf
  cases hf
  simp only[Bool.and_eq_true,decide_eq_true_eq]at hc
  obtain⟨⟨h1,h2⟩,h3⟩:=hc
  cases Re
  rename_i a k
  cases Rd with
  | tup ta ra=>
   by_cases c:a=[]∨k=1
   ·refine kF pins s σ H _ _ v u Q I rx ry ⟨_,_,_,rfl,rfl,ta.sq hK,h2,h3,.inl ⟨?_,?_⟩⟩
    ·rcases c with c | c
     ·subst c;cases ra;exact .inl rfl
     ·exact .inr c
    ·have e:rep k.toNat a=a:=by
      rcases c with c | c
      ·subst c
       have:∀ n,rep n ([]:List D)=[]:=fun n=>by
        induction n with
        | zero=>rfl
        | succ n ih=>simp[rep,ih]
       exact this _
      ·subst c
       show a++rep 0 a=a
       exact List.append_nil a
     exact ad R wq (by rw[e];exact .tup ta ra)
   ·by_cases c0:k≤0
    ·refine kF pins s σ H _ _ v u Q I rx ry ⟨_,_,_,rfl,rfl,ta.sq hK,h2,h3,.inr ⟨fun e=>c (.inl ?_),c0,fun p hp=>?_⟩⟩
     ·subst e;cases ra;rfl
     ·have e:rep k.toNat a=[]:=by rw[Int.toNat_eq_zero.mpr c0];rfl
      rw[e]at wq
      exact cZ R wq .nil hp
    ·have c2:2≤k:=by
      have:¬ k=1:=fun z=>c (.inr z)
      omega
     refine L2.op_repT pins s σ H _ _ v u Q I rx ry ⟨_,_,_,rfl,rfl,ta.sq hK,fun e=>?_,c2,h3,by rw[← ra.len];exact Nat.le_of_ble_eq_true h1,fun p hp=>?_⟩
     ·subst e;cases ra;exact c (.inl rfl)
     ·rw[← nz];exact cZ R wq (ra.rep _) hp
 ·obtain⟨hc,hf⟩:=aa hf
  cases hf
  simp only[Bool.and_eq_true,decide_eq_true_eq,Bool.not_eq_true']at hc
  obtain⟨⟨h1,h2⟩,h3⟩:=hc
  cases Rd;cases Re
  rename_i a k
  obtain⟨t,rfl⟩:=rx
  obtain⟨t',rfl⟩:=ry
  have h1:a.length≤1000:=Nat.le_of_ble_eq_true h1
  have hk:k.toNat≤1000:=by omega
  have hm:a.length * k.toNat≤1000 * 1000:=Nat.mul_le_mul h1 hk
  have hz:PySem.sizeLine=16777216:=PySem.sizeLine_eq
  refine PySem.P.mul_str ?_ (fun h4 _=>?_) (fun _ _=>?_) ?_
  ·rw[decide_eq_false (by omega),decide_eq_false (by omega)];rfl
  ·have:(1000:Int)≤(2 ^ 63 - 1) / k:=Int.le_ediv_of_mul_le (by omega) (by omega)
   omega
  ·exact decide_eq_false (by omega)
  ·unfold u9 at wq
   split
   ·rename_i h4
    rw[if_pos h4]at wq
    exact⟨by decide,.str _,H,I.tok _,⟨_,rfl⟩,ad R wq (.str _)⟩
   rename_i h4
   rw[if_neg h4]at wq
   split
   ·rename_i h5
    rw[if_pos h5]at wq
    exact⟨.str _,H,I,⟨_,rfl⟩,ad R wq (.str _)⟩
   rename_i h5
   rw[if_neg h5]at wq
   have ln:(⟨(List.replicate k.toNat a.cps).foldl (·++·) #[]⟩:Str).length≤PySem.sizeLine:=by
    show ((List.replicate k.toNat a.cps).foldl (·++·) #[]).size≤_
    rw[ie,hz]
    have:k.toNat * a.cps.size=a.length * k.toNat:=Nat.mul_comm _ _
    rw[this]
    simp only[List.size_toArray,List.length_nil]
    omega
   exact⟨ln,.str _,H,I.tok _,⟨_,rfl⟩,ad R wq (.str _)⟩
 ·split at hf
  ·rename_i g1 g2
   obtain⟨hc,hf⟩:=aa hf
   obtain⟨rfl,rfl⟩:=bw hf
   obtain⟨a,vs,rfl,ha,ra⟩:=bG g1 R Rd
   obtain⟨b,us,rfl,hb,rb⟩:=bG g2 R Re
   exact L2.op_cat pins s σ H _ _ v u Q I rx ry ⟨_,_,_,_,rfl,rfl,ha,hb,by rw[← ra.len,← rb.len];exact aK hc,fun p hp=>dA R wq (ra.append rb) hp⟩
  ·cases hf
 ·split at hf
  ·rename_i g1
   obtain⟨hc,hf⟩:=aa hf
   obtain⟨rfl,rfl⟩:=bw hf
   cases Re
   obtain⟨a,vs,rfl,ha,ra⟩:=bG g1 R Rd
   simp only[Bool.and_eq_true,decide_eq_true_eq]at hc
   obtain⟨⟨h1,h2⟩,h3⟩:=hc
   have h1':=Nat.le_of_ble_eq_true h1
   refine L2.op_rep pins s σ H _ _ v u Q I rx ry ⟨_,_,_,rfl,rfl,ha,by omega,by omega,?_,fun p hp=>?_⟩
   ·rw[← ra.len,sizeLine_eq]
    exact Nat.le_trans (Nat.mul_le_mul h1' (Int.toNat_le.mpr (by omega):_≤1000)) (by decide)
   ·rw[← nz];exact dA R wq (ra.rep _) hp
  ·cases hf
 ·cases hf
end
open L2 (upd upd_same upd_ne ne_of ne_of_none Cx VK OpR SqL SqT Key kV Inv)
theorem cg {d:D} {r:List D} {n:Nat} (h:bO (d :: r)=some n):∃ a b,bc d=some a∧bO r=some b∧n=max a b:=by
 simp only[bO]at h
 split at h
 ·cases h;exact⟨_,_,by assumption,by assumption,rfl⟩
 ·cases h
theorem cK {xs:List D} {n:Nat} (h:bc (.tup xs)=some n):∃ a,bO xs=some a∧n=a + 1:=by
 simp only[bc,Option.map_eq_some_iff]at h
 obtain⟨a,h1,h2⟩:=h
 exact⟨a,h1,h2.symm⟩
theorem bX {xs:List D} {n:Nat} (h:bc (.lst xs)=some n):∃ a,bO xs=some a∧n=a + 1:=by
 simp only[bc,Option.map_eq_some_iff]at h
 obtain⟨a,h1,h2⟩:=h
 exact⟨a,h1,h2.symm⟩
theorem lU:∀ l:List Nat,dH l=true→∀ c∈l,c < 0x110000
 | [],_,c,h=>by cases h
 | d :: r,e,c,h=>by
  simp only[dH,Bool.and_eq_true]at e
  rcases List.mem_cons.mp h with rfl | h
  ·exact Nat.le_of_ble_eq_true e.1
  ·exact lU r e.2 c h
mutual
theorem kW:∀ {d:D} {n:Nat},bc d=some n→(aw d).canLay0=true∧(aw d).depth=n
 | .non,_,h=>by cases h;exact⟨rfl,rfl⟩
 | .bl _,_,h=>by cases h;exact⟨rfl,rfl⟩
 | .int _,_,h=>by cases h;exact⟨rfl,rfl⟩
 | .str x,_,h=>by
  simp only[bc]at h
  obtain⟨h1,h2⟩:=aa h
  cases h2
  refine⟨?_,rfl⟩
  show PyData.strOk x=true
  unfold PyData.strOk
  rw[← Array.all_toList,List.all_eq_true]
  intro c hc
  exact decide_eq_true (lU _ h1 c hc)
 | .tup xs,_,h=>by
  obtain⟨a,h1,rfl⟩:=cK h
  obtain⟨h2,h3⟩:=iz h1
  exact⟨by simpa [aw,PyData.canLay0] using h2,by simp[aw,PyData.depth,h3]⟩
 | .lst xs,_,h=>by
  obtain⟨a,h1,rfl⟩:=bX h
  obtain⟨h2,h3⟩:=iz h1
  exact⟨by simpa [aw,PyData.canLay0] using h2,by simp[aw,PyData.depth,h3]⟩
 | .dic _ _,_,h=>by cases h
 | .ins _ _,_,h=>by cases h
 | .ref _,_,h=>by cases h
theorem iz:∀ {d:List D} {n:Nat},bO d=some n→PyData.canLayAll0 (ba d)=true∧PyData.depthAll (ba d)=n
 | [],_,h=>by cases h;exact⟨rfl,rfl⟩
 | d :: r,_,h=>by
  obtain⟨a,b,h1,h2,rfl⟩:=cg h
  obtain⟨h3,h4⟩:=kW h1
  obtain⟨h5,h6⟩:=iz h2
  exact⟨by simp[ba,PyData.canLayAll0,h3,h5],by simp[ba,PyData.depthAll,h4,h6]⟩
end
mutual
theorem hZ:∀ {d e:D} {n m:Nat},bc d=some n→bc e=some m→PyData.eqv (aw d) (aw e)=bB d e
 | .non,e,_,_,_,h=>by cases e<;>first | rfl | cases h
 | .bl a,e,_,_,_,h=>by
  cases e with
  | int j=>cases a<;>simp[aw,PyData.eqv,bB,b2i]<;>rw[Bool.eq_iff_iff]<;>simp<;>exact⟨fun h=>decide_eq_true h,fun h=>of_decide_eq_true h⟩
  | _=>first | rfl | cases h
 | .int i,e,_,_,_,h=>by
  cases e with
  | bl b=>cases b<;>simp[aw,PyData.eqv,bB,b2i]<;>rw[Bool.eq_iff_iff]<;>simp<;>exact⟨fun h=>decide_eq_true h,fun h=>of_decide_eq_true h⟩
  | int j=>simp[aw,PyData.eqv,bB];rw[Bool.eq_iff_iff];simp
  | _=>first | rfl | cases h
 | .str x,e,_,_,_,h=>by
  cases e with
  | str y=>simp[aw,PyData.eqv,bB];rw[Bool.eq_iff_iff];simp
  | _=>first | rfl | cases h
 | .tup xs,e,_,_,h1,h=>by
  obtain⟨a,h2,_⟩:=cK h1
  cases e with
  | tup ys=>
   obtain⟨b,h3,_⟩:=cK h
   simpa [aw,PyData.eqv,bB] using iL h2 h3
  | _=>first | rfl | cases h
 | .lst xs,e,_,_,h1,h=>by
  obtain⟨a,h2,_⟩:=bX h1
  cases e with
  | lst ys=>
   obtain⟨b,h3,_⟩:=bX h
   simpa [aw,PyData.eqv,bB] using iL h2 h3
  | _=>first | rfl | cases h
 | .dic _ _,_,_,_,h,_=>by cases h
 | .ins _ _,_,_,_,h,_=>by cases h
 | .ref _,_,_,_,h,_=>by cases h
theorem iL:∀ {d e:List D} {n m:Nat},bO d=some n→bO e=some m→PyData.eqvAll (ba d) (ba e)=lh d e
 | [],[],_,_,_,_=>rfl
 | [],_ :: _,_,_,_,_=>rfl
 | _ :: _,[],_,_,_,_=>rfl
 | x :: xs,y :: ys,_,_,h1,h2=>by
  obtain⟨a,b,h3,h4,rfl⟩:=cg h1
  obtain⟨a',b',h5,h6,rfl⟩:=cg h2
  simp[ba,PyData.eqvAll,lh,hZ h3 h5,iL h4 h6]
end
section
variable {W:Wd} {H H':HH} {S S':Addr→Prop} {ρ ρ':aq} {h h':Mm} {X:Cx}
mutual
theorem mF (hK:X.K=W.K):∀ {d:D} {v:L2.V} {n:Nat},bc d=some n→RV W H S ρ d v→L2.Dp X.K H v (aw d)
 | .non,_,_,_,.non=>.non
 | .bl _,_,_,_,.bl b=>.bl b
 | .int _,_,_,_,.int b=>.int b
 | .str _,_,_,_,.str b=>.str b
 | .tup _,_,_,e,.tup t r=>let ⟨_,e1,_⟩:=cK e;.tup (t.sq hK) (kh hK e1 r)
 | .lst _,_,_,e,.lst s q r=>let ⟨_,e1,_⟩:=bX e;.lst (SqL.of q) (kh hK e1 r)
 | .dic _ _,_,_,e,_=>by cases e
 | .ins _ _,_,_,e,_=>by cases e
 | .ref _,_,_,e,_=>by cases e
theorem kh (hK:X.K=W.K):∀ {d:List D} {v:List L2.V} {n:Nat},bO d=some n→RVs W H S ρ d v→L2.DpAll X.K H v (ba d)
 | [],_,_,_,.nil=>.nil
 | _ :: _,_,_,e,.cons a r=>let ⟨_,_,e1,e2,_⟩:=cg e;.cons (mF hK e1 a) (kh hK e2 r)
end
theorem kL (k:Nat) (h:Mm) (d:D):frz (k + 1) h d=bif aD d then some d else match d with
  | .tup xs=>(bn (frz k h) xs).map .tup
  | .lst xs=>(bn (frz k h) xs).map .lst
  | .ref n=>match h.get n with
   | some (.lst xs)=>(bn (frz k h) xs).map .lst
   | some (.dic t kvs)=>(bn (fun p:D×D=>(frz k h p.2).map fun y=>(p.1,y)) kvs).map (.dic t)
   | some (.ins c fs)=>(bn (fun p:Str×D=>(frz k h p.2).map fun y=>(p.1,y)) fs).map (.ins c)
   | none=>none
  | _=>none:=rfl
theorem fG (hK:X.K=W.K) {f:D→Option D} (ih:∀ {d e:D} {v:L2.V} {n:Nat},f d=some e→bc e=some n→RV W H S ρ d v→L2.Dp X.K H v (aw e)):
  ∀ {xs ys:List D} {vs:List L2.V} {n:Nat},bn f xs=some ys→bO ys=some n→RVs W H S ρ xs vs→L2.DpAll X.K H vs (ba ys)
 | [],_,_,_,e,_,.nil=>by cases e;exact .nil
 | d :: r,ys,_,_,e,hd,.cons a t=>by
  simp only[bn]at e
  split at e
  ·split at e
   ·cases e
    obtain⟨_,_,e1,e2,_⟩:=cg hd
    exact .cons (ih (by assumption) e1 a) (fG hK ih (by assumption) e2 t)
   ·cases e
  ·cases e
theorem gX (hK:X.K=W.K) (R:RH W H S ρ h):∀ (k:Nat) {d e:D} {v:L2.V} {n:Nat},frz k h d=some e→bc e=some n→RV W H S ρ d v→L2.Dp X.K H v (aw e)
 | 0,d,e,v,n,hf,hd,r=>by
  obtain⟨_,h2⟩:=aa hf
  cases h2
  exact mF hK hd r
 | k + 1,d,e,v,n,hf,hd,r=>by
  rw[kL]at hf
  cases hp:aD d with
  | true=>
   rw[hp]at hf
   cases hf
   exact mF hK hd r
  | false=>
   rw[hp]at hf
   simp only[cond_false]at hf
   split at hf
   ·obtain⟨ys,h1,rfl⟩:=Option.map_eq_some_iff.mp hf
    obtain⟨_,e1,_⟩:=cK hd
    cases r with | tup t r=>exact .tup (t.sq hK) (fG hK (fun a b c=>gX hK R k a b c) h1 e1 r)
   ·obtain⟨ys,h1,rfl⟩:=Option.map_eq_some_iff.mp hf
    obtain⟨_,e1,_⟩:=bX hd
    cases r with | lst s q r=>exact .lst (SqL.of q) (fG hK (fun a b c=>gX hK R k a b c) h1 e1 r)
   ·rename_i m
    split at hf
    ·rename_i xs g
     obtain⟨ys,h1,rfl⟩:=Option.map_eq_some_iff.mp hf
     obtain⟨_,e1,_⟩:=bX hd
     obtain⟨a,vs,rfl,e2,r2⟩:=bG (d:=.ref m) (h:=h) (xs:=xs) (by simp[listOf,g]) R r
     exact .lst (SqL.of e2) (fG hK (fun a b c=>gX hK R k a b c) h1 e1 r2)
    ·obtain⟨ys,h1,rfl⟩:=Option.map_eq_some_iff.mp hf
     cases hd
    ·obtain⟨ys,h1,rfl⟩:=Option.map_eq_some_iff.mp hf
     cases hd
    ·cases hf
   ·cases hf
theorem cP (hK:X.K=W.K) (R:RH W H S ρ h) {d e:D} {v:L2.V} (hf:dh h d=some e) (r:RV W H S ρ d v):L2.Dp X.K H v (aw e)∧SeqAt.shaped (aw e)=true∧∃ n,bc e=some n:=by
 unfold dh at hf
 split at hf
 ·rename_i x g
  split at hf
  ·rename_i n g2
   obtain⟨h1,h2⟩:=aa hf
   cases h2
   obtain⟨h3,h4⟩:=kW g2
   refine⟨gX hK R _ g g2 r,?_,n,g2⟩
   unfold SeqAt.shaped
   rw[h3,h4]
   have:=Nat.le_of_ble_eq_true h1
   simp;omega
  ·cases hf
 ·cases hf
def rQ (W:Wd) (f:D→D→Mm→Option Bool):L2.R2:=fun x y H Q=>∃ S ρ h d e k,RV W H S ρ d x∧RV W H S ρ e y∧RH W H S ρ h∧f d e h=some k∧Q (.bl k) H
theorem mf {d e:D} {x y:L2.V} (hs:iW d e=true) (Rd:RV W H S ρ d x) (Re:RV W H S ρ e y):L2.scal x y=true∧decide (x=y)=bB d e:=by
 cases d<;>cases e<;>first
  | (cases Rd;cases Re;first | (rename_i b1 b2;cases b1<;>cases b2<;>exact⟨rfl,rfl⟩) | (exact⟨rfl,by simp[bB]⟩) | (refine⟨rfl,?_⟩;simp only[bB];rw[Bool.eq_iff_iff];simp))
  | exact absurd (show false=true from hs) Bool.false_ne_true
theorem nq (xw:XW W X):X.A.units + 64 < cLine:=Nat.lt_of_le_of_lt (by omega) xw.un
theorem qj (xw:XW W X):X.A.units + 65 < cLine:=Nat.lt_of_le_of_lt (by omega) xw.un
theorem je {d e:D} {x y:L2.V} {k:Bool} (I:Inv X pins σ H s) (Rd:RV W H S ρ d x) (Re:RV W H S ρ e y) (R:RH W H S ρ h) (hf:pS d e h=some k):k=false∧∃ (a b:Addr) (its its2:List Value),x = .ref a∧y = .ref b∧s.heap.IsList a its.toArray∧s.heap.IsList b its2.toArray∧(its.toArray.size != its2.toArray.size)=true:=by
 unfold pS at hf
 split at hf
 ·rename_i xs ys g1 g2
  cases hb:Nat.beq xs.length ys.length with
  | true=>rw[hb]at hf;cases hf
  | false=>
   rw[hb]at hf
   cases hf
   obtain⟨a,vs,rfl,e1,r1⟩:=bG g1 R Rd
   obtain⟨b,ws,rfl,e2,r2⟩:=bG g2 R Re
   obtain⟨its,rv1,hl1,_⟩:=I.list (SqL.of e1)
   obtain⟨its2,rv2,hl2,_⟩:=I.list (SqL.of e2)
   refine⟨rfl,a,b,its,its2,rfl,rfl,hl1.isList,hl2.isList,?_⟩
   have:=Nat.ne_of_beq_eq_false hb
   have l1:=r1.len
   have l2:=r2.len
   have l3:=rv1.length
   have l4:=rv2.length
   rw[List.size_toArray,List.size_toArray]
   exact bne_iff_ne.mpr (by omega)
 ·cases hf
theorem zK (xw:XW W X):OpR X (compareOp .Eq) (rQ W jX):=by
 rintro pins s σ H x y v u Q I rx ry ⟨S,ρ,h,d,e,k,Rd,Re,R,hf,wq⟩
 unfold jX at hf
 cases hs:iW d e with
 | true=>
  rw[hs]at hf;cases hf
  obtain⟨h1,h2⟩:=mf hs Rd Re
  exact L2.op_eq pins s σ H x y v u Q I rx ry ⟨h1,by rw[h2];exact wq⟩
 | false=>
  rw[hs]at hf
  simp only[cond_false]at hf
  split at hf
  ·rename_i a b g1 g2
   cases hf
   obtain⟨d1,s1,_,n1⟩:=cP xw.K R g1 Rd
   obtain⟨d2,s2,_,n2⟩:=cP xw.K R g2 Re
   exact L2.op_eqD (nq xw) pins s σ H x y v u Q I rx ry ⟨_,_,d1,d2,s1,s2,by rw[hZ n1 n2];exact wq⟩
  ·obtain⟨rfl,a,b,its,its2,rfl,rfl,l1,l2,ne⟩:=je I Rd Re R hf
   cases rx;cases ry
   have hu:=nq xw
   exact SeqAt.eq_list_lengthsAt l1 l2 ne (by omega) ⟨.bl _,H,I,rfl,wq⟩
theorem AN (xw:XW W X):OpR X (compareOp .NotEq) (rQ W fun x y h=>cmpD .ne x y h):=by
 rintro pins s σ H x y v u Q I rx ry ⟨S,ρ,h,d,e,k,Rd,Re,R,hf,wq⟩
 simp only[cmpD]at hf
 split at hf
 ·cases hf
  rename_i k hf
  unfold jX at hf
  cases hs:iW d e with
  | true=>
   rw[hs]at hf;cases hf
   obtain⟨h1,h2⟩:=mf hs Rd Re
   exact L2.op_ne pins s σ H x y v u Q I rx ry ⟨h1,by rw[h2];exact wq⟩
  | false=>
   rw[hs]at hf
   simp only[cond_false]at hf
   split at hf
   ·rename_i a b g1 g2
    cases hf
    obtain⟨d1,s1,_,n1⟩:=cP xw.K R g1 Rd
    obtain⟨d2,s2,_,n2⟩:=cP xw.K R g2 Re
    exact L2.op_neD (nq xw) pins s σ H x y v u Q I rx ry ⟨_,_,d1,d2,s1,s2,by rw[hZ n1 n2];exact wq⟩
   ·obtain⟨rfl,a,b,its,its2,rfl,rfl,l1,l2,ne⟩:=je I Rd Re R hf
    cases rx;cases ry
    have hu:=nq xw
    exact SeqAt.RcNeAt.lists_lengths l1 l2 ne (by omega) X.prog X.w _ _ ⟨.bl _,H,I,rfl,wq⟩
 ·cases hf
end
open L2 (upd upd_same upd_ne ne_of ne_of_none Cx VK OpR SqL SqT Key kV Inv valV putK RelV HOk ObjOk)
section
variable {W:Wd} {H H':HH} {S S':Addr→Prop} {ρ ρ':aq} {h h':Mm} {X:Cx}
inductive OR (W:Wd) (H:HH) (S:Addr→Prop) (ρ:aq):Option D→Option L2.V→Prop
 | none:OR W H S ρ none none
 | some {d v}:RV W H S ρ d v→OR W H S ρ (some d) (some v)
inductive KK:D→Key→Prop
 | int (i:Int):KK (.int i) (.inl i)
 | str (x:Str):KK (.str x) (.inr x)
theorem dq {k:D} {y:L2.V} (hk:aR false k=true) (r:RV W H S ρ k y):∃ kk,KK k kk∧y=kV kk:=by
 cases k<;>first | (cases r;exact⟨_,.int _,rfl⟩) | (cases r;exact⟨_,.str _,rfl⟩) | cases hk
theorem mn {a k:D} {x y:Key} (ha:KK a x) (hk:KK k y):bB a k=decide (x=y):=by
 cases ha<;>cases hk
 ·simp only[bB];rw[L2.key_ll];rw[Bool.eq_iff_iff];simp
 ·rfl
 ·rfl
 ·simp only[bB];rw[L2.key_rr]
theorem RKs.kk {a:D} {d r kvs}:RKs W H S ρ ((a,d) :: kvs) r→∃ x v s,r=(x,v) :: s∧KK a x∧RV W H S ρ d v∧RKs W H S ρ kvs s
 | .int a r=>⟨_,_,_,rfl,.int _,a,r⟩
 | .str a r=>⟨_,_,_,rfl,.str _,a,r⟩
theorem RKs.mk {a:D} {d kvs x v s} (hk:KK a x) (r:RV W H S ρ d v) (t:RKs W H S ρ kvs s):RKs W H S ρ ((a,d) :: kvs) ((x,v) :: s):=by
 cases hk with
 | int i=>exact .int r t
 | str z=>exact .str r t
theorem RKs.look {k:D} {kk:Key} (hk:KK k kk):∀ {kvs ks},RKs W H S ρ kvs ks→OR W H S ρ (bf kvs k) (valV ks kk)
 | [],_,.nil=>.none
 | (a,d) :: kvs,_,r=>by
  obtain⟨x,v,s,rfl,ha,rd,t⟩:=r.kk
  have e:=mn ha hk
  by_cases q:x=kk
  ·rw[decide_eq_true q]at e
   rw[L2.valV_pos (by exact q)]
   simp only[bf,e,cond_true]
   exact .some rd
  ·rw[decide_eq_false q]at e
   rw[L2.valV_neg (by exact q)]
   simp only[bf,e,cond_false]
   exact t.look hk
theorem RKs.repl {k:D} {kk:Key} {d v} (hk:KK k kk) (rd:RV W H S ρ d v):∀ {kvs ks},RKs W H S ρ kvs ks→RKs W H S ρ (dX kvs k d) (ks.map fun kv=>if kv.1=kk then (kv.1,v) else kv)
 | [],_,.nil=>.nil
 | (a,b) :: kvs,_,r=>by
  obtain⟨x,w,s,rfl,ha,rb,t⟩:=r.kk
  have e:=mn ha hk
  by_cases q:x=kk
  ·rw[decide_eq_true q]at e
   simp only[dX,e,cond_true,List.map_cons,if_pos q]
   exact .mk ha rd (t.repl hk rd)
  ·rw[decide_eq_false q]at e
   simp only[dX,e,cond_false,List.map_cons,if_neg q]
   exact .mk ha rb (t.repl hk rd)
theorem RKs.snoc {k:D} {kk:Key} {d v} (hk:KK k kk) (rd:RV W H S ρ d v):∀ {kvs ks},RKs W H S ρ kvs ks→RKs W H S ρ (kvs++[(k,d)]) (ks++[(kk,v)])
 | [],_,.nil=>.mk hk rd .nil
 | (a,b) :: kvs,_,r=>by
  obtain⟨x,w,s,rfl,ha,rb,t⟩:=r.kk
  exact .mk ha rb (t.snoc hk rd)
theorem RKs.put {k:D} {kk:Key} {d v} (hk:KK k kk) (rd:RV W H S ρ d v) {kvs ks} (r:RKs W H S ρ kvs ks):RKs W H S ρ (bz kvs k d) (putK ks kk v):=by
 have o:=r.look hk
 unfold bz putK
 rw[L2.valV_any]
 generalize bf kvs k=a at o ⊢
 generalize valV ks kk=b at o ⊢
 cases o with
 | none=>exact r.snoc hk rd
 | some _=>exact r.repl hk rd
theorem RKs.len:∀ {kvs ks},RKs W H S ρ kvs ks→kvs.length=ks.length
 | [],_,.nil=>rfl
 | (a,b) :: kvs,_,r=>by
  obtain⟨x,w,s,rfl,ha,rb,t⟩:=r.kk
  simp[t.len]
mutual
theorem wt:∀ {d:D},oY d=true→∃ k,NK d k
 | .non,_=>⟨_,.non⟩
 | .int i,_=>⟨_,.int i⟩
 | .str x,_=>⟨_,.str x⟩
 | .tup xs,h=>let ⟨ks,r⟩:=kE (xs:=xs) h;⟨_,r⟩
 | .bl _,h=>by cases h
 | .lst _,h=>by cases h
 | .dic _ _,h=>by cases h
 | .ins _ _,h=>by cases h
 | .ref _,h=>by cases h
theorem kE:∀ {xs:List D},im xs=true→∃ ks,NK (.tup xs) (.tup ks)
 | [],_=>⟨[],.tnil⟩
 | d :: r,h=>by
  simp only[im,Bool.and_eq_true]at h
  obtain⟨k,hk⟩:=wt h.1
  obtain⟨ks,hr⟩:=kE h.2
  exact⟨k :: ks,.tcons hk hr⟩
end
theorem mE:∀ {a k:D} {x y:NestedKey},NK a x→NK k y→bB a k=NestedKey.beq x y
 | _,_,_,_,.non,hk=>by cases hk<;>rfl
 | _,_,_,_,.int i,hk=>by cases hk<;>rfl
 | _,_,_,_,.str z,hk=>by cases hk<;>rfl
 | _,_,_,_,.tnil,hk=>by cases hk<;>rfl
 | _,_,_,_,.tcons a r,hk=>by
  cases hk with
  | tcons b s=>
   have e1:=mE a b
   have e2:=mE r s
   simp only[bB,lh,NestedKey.beq,NestedKey.beqAll]at e2 ⊢
   rw[e1,e2]
  | _=>rfl
theorem nW {a k:D} {x y:NestedKey} (ha:NK a x) (hk:NK k y):bB a k=decide (x=y):=by rw[mE ha hk,NestedKey.decide_eq]
theorem gH:∀ {d:D} {k:NestedKey},NK d k→k.depth=mW d
 | _,_,.non=>rfl
 | _,_,.int _=>rfl
 | _,_,.str _=>rfl
 | _,_,.tnil=>rfl
 | _,_,.tcons a r=>by
  have e1:=gH a
  have e2:=gH r
  simp only[NestedKey.depth,NestedKey.depthAll,mW,gS]at e2 ⊢
  omega
theorem RT.isTup {pins σ s a vs} (t:RT W H S a vs) (xw:XW W X) (I:Inv X pins σ H s):∃ its:List Value,L2.Vals vs its∧PyProof.Rows.IsTup s.heap a its.toArray:=by
 obtain⟨its,r,p,_⟩:=I.tuple (t.sq xw.K)
 exact⟨its,r,p⟩
theorem sT {pins σ s} (xw:XW W X) (I:Inv X pins σ H s) {d:D} {k:NestedKey} (n:NK d k):(∀ (v:L2.V) (u:Value),RV W H S ρ d v→RelV v u→NestedIs s.heap k u) ∧
  (∀ (xs:List D) (ks:List NestedKey) (vs:List L2.V) (us:List Value),d = .tup xs→k = .tup ks→RVs W H S ρ xs vs→L2.Vals vs us→NestedAll s.heap ks us):=by
 have up:∀ (xs:List D) (ks:List NestedKey),(∀ (vs:List L2.V) (us:List Value),RVs W H S ρ xs vs→L2.Vals vs us→NestedAll s.heap ks us)→∀ (v:L2.V) (u:Value),RV W H S ρ (.tup xs) v→RelV v u→NestedIs s.heap (.tup ks) u:=by
  intro xs ks f v u r e
  cases r with
  | tup t rs=>
   cases e
   obtain⟨its,ri,o,ho,hc,m,hd⟩:=t.isTup xw I
   exact .tup ho hc hd (by simpa using f _ _ rs ri)
 induction n with
 | non=>exact⟨fun v u r e=>by cases r;cases e;exact .none,fun _ _ _ _ e=>by cases e⟩
 | int i=>exact⟨fun v u r e=>by cases r;obtain⟨t,rfl⟩:=e;exact .int _ _,fun _ _ _ _ e=>by cases e⟩
 | str x=>exact⟨fun v u r e=>by cases r;obtain⟨t,rfl⟩:=e;exact .text _ _,fun _ _ _ _ e=>by cases e⟩
 | tnil=>
  have f:∀ (vs:List L2.V) (us:List Value),RVs W H S ρ [] vs→L2.Vals vs us→NestedAll s.heap [] us:=fun vs us r e=>by cases r;cases e;exact .nil
  exact⟨up _ _ f,fun xs ks vs us e1 e2 r e=>by cases e1;cases e2;exact f _ _ r e⟩
 | @tcons d r k ks a b ia ib=>
  have f:∀ (vs:List L2.V) (us:List Value),RVs W H S ρ (d :: r) vs→L2.Vals vs us→NestedAll s.heap (k :: ks) us:=fun vs us q e=>by
   cases q with
   | cons q1 q2=>
    cases e with
    | cons e1 e2=>exact .cons (ia.1 _ _ q1 e1) (ib.2 _ _ _ _ rfl rfl q2 e2)
  exact⟨up _ _ f,fun xs ks vs us e1 e2 r e=>by cases e1;cases e2;exact f _ _ r e⟩
theorem c9 {pins σ s} (xw:XW W X) (I:Inv X pins σ H s) {d:D} {k:NestedKey} {v:L2.V} {u:Value} (n:NK d k) (r:RV W H S ρ d v) (e:RelV v u):NestedIs s.heap k u:=(sT xw I n).1 v u r e
abbrev fC:=NestedKey×Addr×Value
inductive OU (W:Wd) (H:HH) (S:Addr→Prop) (ρ:aq):Option D→Option (Addr×Value)→Prop
 | none:OU W H S ρ none none
 | some {d v u b}:RV W H S ρ d v→RelV v u→OU W H S ρ (some d) (some (b,u))
theorem mJ (x:fC) (xs:List fC) (k:NestedKey):atKey (x :: xs) k=if x.1=k then some x.2 else atKey xs k:=by
 unfold atKey
 rw[List.find?_cons]
 by_cases q:x.1=k<;>simp[q]
theorem RTs.look {k:D} {n:NestedKey} (hk:NK k n):∀ {kvs xs},RTs W H S ρ kvs xs→OU W H S ρ (bf kvs k) (atKey xs n)
 | [],_,.nil=>.none
 | (a,d) :: kvs,_,.cons (n:=m) na hd ra rd u t=>by
  have e:=nW na hk
  rw[mJ]
  by_cases q:m=n
  ·rw[decide_eq_true q]at e
   simp only[bf,e,cond_true,if_pos q]
   exact .some rd u
  ·rw[decide_eq_false q]at e
   simp only[bf,e,cond_false,if_neg q]
   exact t.look hk
theorem RTs.repl {k:D} {n:NestedKey} {d v u} (hk:NK k n) (rd:RV W H S ρ d v) (ru:RelV v u):∀ {kvs xs},RTs W H S ρ kvs xs→RTs W H S ρ (dX kvs k d) (xs.map (putAt n u))
 | [],_,.nil=>.nil
 | (a,b) :: kvs,_,.cons (n:=m) na hd ra rb u' t=>by
  have e:=nW na hk
  by_cases q:m=n
  ·rw[decide_eq_true q]at e
   simp only[dX,e,cond_true,List.map_cons,putAt,if_pos q]
   exact .cons na hd ra rd ru (t.repl hk rd ru)
  ·rw[decide_eq_false q]at e
   simp only[dX,e,cond_false,List.map_cons,putAt,if_neg q]
   exact .cons na hd ra rb u' (t.repl hk rd ru)
theorem RTs.snoc {k:D} {n:NestedKey} {d v u a} (hk:NK k n) (hd:n.depth≤8) (ra:RV W H S ρ k (.ref a)) (rd:RV W H S ρ d v) (ru:RelV v u):∀ {kvs xs},RTs W H S ρ kvs xs→RTs W H S ρ (kvs++[(k,d)]) (xs++[(n,a,u)])
 | [],_,.nil=>.cons hk hd ra rd ru .nil
 | _ :: _,_,.cons na h' rk rb u' t=>.cons na h' rk rb u' (t.snoc hk hd ra rd ru)
theorem RTs.put {k:D} {n:NestedKey} {d v u a} (hk:NK k n) (hd:n.depth≤8) (ra:RV W H S ρ k (.ref a)) (rd:RV W H S ρ d v) (ru:RelV v u) {kvs xs} (r:RTs W H S ρ kvs xs):RTs W H S ρ (bz kvs k d) (storedH xs n a u):=by
 have o:=r.look hk
 unfold bz storedH
 generalize bf kvs k=p at o ⊢
 generalize atKey xs n=q at o ⊢
 cases o with
 | none=>exact r.snoc hk hd ra rd ru
 | some _ _=>exact r.repl hk rd ru
theorem RTs.len:∀ {kvs xs},RTs W H S ρ kvs xs→kvs.length=xs.length
 | _,_,.nil=>rfl
 | _,_,.cons _ _ _ _ _ t=>by simp[t.len]
theorem kc {pins σ s} (xw:XW W X) (I:Inv X pins σ H s):∀ {kvs xs},RTs W H S ρ kvs xs→∀ x∈xs,(nestedKind W.P W.w).is s.heap x.1 x.2.1
 | _,_,.nil,x,hx=>by cases hx
 | _,_,.cons na hd ra _ _ t,x,hx=>by
  rcases List.mem_cons.mp hx with rfl | hx
  ·exact⟨c9 xw I na ra rfl,hd⟩
  ·exact kc xw I t x hx
theorem c7 {pins σ s a kvs xs} (xw:XW W X) (I:Inv X pins σ H s) (e:L2.Rd H a (cw W a xs)) (r:RTs W H S ρ kvs xs):
  s.heap.DictOfH (nestedKind W.P W.w) a xs∧(a == sysModules)=false∧xs.length≤sizeLine:=by
 obtain⟨⟨h1,h2,o,es,ep,ho,hc,hd,he,hn⟩,_,_⟩:=e.ok I.hok
 exact⟨⟨o,es,ep,ho,hc,hd,he,kc xw I r,hn⟩,h1,h2⟩
theorem kT (xw:XW W X) {A:Around} (h:A.units≤X.A.units + 1):A.in1.units + 8 < cLine:=by
 have:=xw.un
 show A.units + 1 + 8 < cLine
 omega
end
section
variable {W:Wd} {H H':HH} {S S':Addr→Prop} {ρ ρ':aq} {h h':Mm} {X:Cx} {pins:List (Addr×Obj)} {σ:L2.St} {s:Shared} {A:Around} {E:Value→Shared→Prop}
theorem eZ {k:D} (hk:aR true k=true):∃ n,NK k n∧n.depth≤8:=by
 cases k with
 | tup xs=>
  have hk':(im xs&&Nat.ble (gS xs + 1) 7)=true:=hk
  rw[Bool.and_eq_true]at hk'
  obtain⟨ks,n⟩:=kE hk'.1
  refine⟨_,n,?_⟩
  rw[gH n]
  have:=Nat.le_of_ble_eq_true hk'.2
  simp only[mW]
  omega
 | _=>cases hk
theorem bP {k:D} {y:L2.V} (hk:aR true k=true) (r:RV W H S ρ k y):∃ b,y = .ref b:=by
 cases k with
 | tup xs=>cases r;exact⟨_,rfl⟩
 | _=>cases hk
def oy (W:Wd) (H:HH) (S:Addr→Prop) (ρ:aq) (o:Option D) (w':Option Value):Prop:=match o,w' with
 | none,none=>True
 | some d,some u=>∃ v,RV W H S ρ d v∧RelV v u
 | _,_=>False
theorem jj {o:Option D} {p:Option (Addr×Value)} (a:OU W H S ρ o p):oy W H S ρ o (p.map (·.2)):=by
 cases a with
 | none=>trivial
 | some r u=>exact⟨_,r,u⟩
theorem fR {o:Option D} {p:Option Value} {d:D} {v:L2.V} {u:Value} (a:oy W H S ρ o p) (r:RV W H S ρ d v) (e:RelV v u):∃ w',RV W H S ρ (o.getD d) w'∧RelV w' (p.getD u):=by
 cases o<;>cases p<;>first | exact a.elim | exact⟨v,r,e⟩ | (obtain⟨w',r',e'⟩:=a;exact⟨w',r',e'⟩)
theorem jU (xw:XW W X) (hA:A.units≤X.A.units + 1) (I:Inv X pins σ H s) (R:RH W H S ρ h) {d k e:D} {x y:L2.V} {v u:Value} {t kvs} {Q:Value→Shared→Prop} (hd:dictOf h d=some (t,kvs)) (hk:aR t k=true)
  (Rd:RV W H S ρ d x) (Rk:RV W H S ρ k y) (rx:RelV x v) (ry:RelV y u) (l:bf kvs k=some e) (hq:∀ z w' s',Inv X pins σ H s'→RV W H S ρ e z→RelV z w'→Q w' s'):wpAny (model X.prog X.w) A (getItem v u) Q E s:=by
 obtain⟨a,rfl,c | c⟩:=eU hd R Rd
 ·obtain⟨rfl,ks,ea,rk⟩:=c
  obtain⟨kk,hkk,rfl⟩:=dq hk Rk
  cases rx
  have o:=rk.look hkk
  rw[l]at o
  obtain⟨z,eo⟩:∃ z,valV ks kk=some z:=by
   generalize valV ks kk=q at o
   cases o with | some r=>exact⟨_,rfl⟩
  rw[eo]at o
  cases o with
  | some rz=>exact L2.d_getItem (v:=z) (by have:=xw.un;omega) I (by rw[← eo];exact (show L2.DGet _ _ _ _ from .inl ⟨_,_,ea,rfl,rfl⟩)) ry fun w' s' I' r'=>hq z w' s' I' rz r'
 ·obtain⟨rfl,xs,ea,rt⟩:=c
  obtain⟨n,hn,dn⟩:=eZ hk
  obtain⟨b,rfl⟩:=bP hk Rk
  cases rx;cases ry
  obtain⟨dd,hs,z⟩:=c7 xw I ea rt
  have o:=rt.look hn
  rw[l]at o
  generalize eo:atKey xs n=q at o
  cases o with
  | some rz ru=>
   rw[xw.P,xw.w]
   exact wpAny_getItem_heap (knd:=nestedKind W.P W.w) (kT xw hA) ⟨c9 xw I hn Rk rfl,dn⟩ dd eo (hq _ _ _ (I.tok _) rz ru)
theorem zY (xw:XW W X) (I:Inv X pins σ H s) (R:RH W H S ρ h) {d k:D} {x y:L2.V} {v u:Value} {t kvs} {Q:Value→Shared→Prop} (hd:dictOf h d=some (t,kvs)) (hk:aR t k=true)
  (Rd:RV W H S ρ d x) (Rk:RV W H S ρ k y) (rx:RelV x v) (ry:RelV y u) (hq:∀ s',Inv X pins σ H s'→Q (.bool (bf kvs k).isSome) s'):wpAny (model X.prog X.w) X.A (compareOp .In u v) Q E s:=by
 obtain⟨a,rfl,c | c⟩:=eU hd R Rd
 ·obtain⟨rfl,ks,ea,rk⟩:=c
  obtain⟨kk,hkk,rfl⟩:=dq hk Rk
  cases rx
  have o:=rk.look hkk
  have e:(valV ks kk).isSome=(bf kvs k).isSome:=by generalize valV ks kk=q at o ⊢;generalize bf kvs k=p at o ⊢;cases o<;>rfl
  exact L2.d_in (by have:=xw.un;omega) I ((show L2.DGet _ _ _ _ from .inl ⟨_,_,ea,rfl,rfl⟩)) ry fun s' I'=>by rw[e];exact hq s' I'
 ·obtain⟨rfl,xs,ea,rt⟩:=c
  obtain⟨n,hn,dn⟩:=eZ hk
  obtain⟨b,rfl⟩:=bP hk Rk
  cases rx;cases ry
  obtain⟨dd,hs,z⟩:=c7 xw I ea rt
  have o:=rt.look hn
  have e:(atKey xs n).isSome=(bf kvs k).isSome:=by generalize atKey xs n=q at o ⊢;generalize bf kvs k=p at o ⊢;cases o<;>rfl
  rw[xw.P,xw.w]
  exact wpAny_in_heap (knd:=nestedKind W.P W.w) (kT xw (Nat.le_succ _)) ⟨c9 xw I hn Rk rfl,dn⟩ hs dd (by rw[e];exact hq _ (I.tok _))
theorem vt (xw:XW W X) (I:Inv X pins σ H s) (R:RH W H S ρ h) {d k:D} {x y:L2.V} {v u:Value} {t kvs} {Q:Value→Shared→Prop} (hd:dictOf h d=some (t,kvs)) (hk:aR t k=true)
  (Rd:RV W H S ρ d x) (Rk:RV W H S ρ k y) (rx:RelV x v) (ry:RelV y u) (hq:∀ s',Inv X pins σ H s'→Q (.bool (!(bf kvs k).isSome)) s'):wpAny (model X.prog X.w) X.A (compareOp .NotIn u v) Q E s:=by
 obtain⟨a,rfl,c | c⟩:=eU hd R Rd
 ·obtain⟨rfl,ks,ea,rk⟩:=c
  obtain⟨kk,hkk,rfl⟩:=dq hk Rk
  cases rx
  have o:=rk.look hkk
  have e:(valV ks kk).isSome=(bf kvs k).isSome:=by generalize valV ks kk=q at o ⊢;generalize bf kvs k=p at o ⊢;cases o<;>rfl
  exact L2.d_notIn (by have:=xw.un;omega) I ((show L2.DGet _ _ _ _ from .inl ⟨_,_,ea,rfl,rfl⟩)) ry fun s' I'=>by rw[e];exact hq s' I'
 ·obtain⟨rfl,xs,ea,rt⟩:=c
  obtain⟨n,hn,dn⟩:=eZ hk
  obtain⟨b,rfl⟩:=bP hk Rk
  cases rx;cases ry
  obtain⟨dd,hs,z⟩:=c7 xw I ea rt
  have o:=rt.look hn
  have e:(atKey xs n).isSome=(bf kvs k).isSome:=by generalize atKey xs n=q at o ⊢;generalize bf kvs k=p at o ⊢;cases o<;>rfl
  rw[xw.P,xw.w]
  refine notIn_keyed (knd:=nestedKind W.P W.w) (kT xw (Nat.le_succ _)) ⟨c9 xw I hn Rk rfl,dn⟩ hs ⟨xs,dd,rfl⟩ ?_
  rw[valueAt_pairsH,Option.isSome_map,e]
  exact hq _ (I.tok _)
theorem wK (xw:XW W X) (I:Inv X pins σ H s) (R:RH W H S ρ h) {d k:D} {x y:L2.V} {v u:Value} {t kvs} {Q:Value→Shared→Prop} (hd:dictOf h d=some (t,kvs)) (hk:aR t k=true)
  (Rd:RV W H S ρ d x) (Rk:RV W H S ρ k y) (rx:RelV x v) (ry:RelV y u) (hq:∀ z w' s',Inv X pins σ H s'→RV W H S ρ ((bf kvs k).getD .non) z→RelV z w'→Q w' s'):wpAny (model X.prog X.w) X.A (PySem.call (.builtin "dict.get") [v,u]) Q E s:=by
 obtain⟨a,rfl,c | c⟩:=eU hd R Rd
 ·obtain⟨rfl,ks,ea,rk⟩:=c
  obtain⟨kk,hkk,rfl⟩:=dq hk Rk
  cases rx
  have o:=rk.look hkk
  refine L2.d_get1 (A:=X.A) (by have:=xw.un;omega) I ((show L2.DGet _ _ _ _ from .inl ⟨_,_,ea,rfl,rfl⟩)) ry fun w' s' I' r'=>?_
  generalize valV ks kk=q at o r'
  generalize bf kvs k=p at o hq
  cases o with
  | none=>exact hq .non w' s' I' .non r'
  | some rz=>exact hq _ w' s' I' rz r'
 ·obtain⟨rfl,xs,ea,rt⟩:=c
  obtain⟨n,hn,dn⟩:=eZ hk
  obtain⟨b,rfl⟩:=bP hk Rk
  cases rx;cases ry
  obtain⟨dd,hs,z⟩:=c7 xw I ea rt
  obtain⟨w',r1,r2⟩:=fR (jj (rt.look hn)) .non (show RelV .non .none from rfl)
  rw[xw.P,xw.w]
  refine get_keyed (knd:=nestedKind W.P W.w) (kT xw (Nat.le_succ _)) ⟨c9 xw I hn Rk rfl,dn⟩ hs ⟨xs,dd,rfl⟩ ?_
  rw[valueAt_pairsH]
  exact hq _ _ _ (I.tok _) r1 r2
theorem wT (xw:XW W X) (I:Inv X pins σ H s) (R:RH W H S ρ h) {d k e:D} {x y z:L2.V} {v u w:Value} {t kvs} {Q:Value→Shared→Prop} (hd:dictOf h d=some (t,kvs)) (hk:aR t k=true)
  (Rd:RV W H S ρ d x) (Rk:RV W H S ρ k y) (Re:RV W H S ρ e z) (rx:RelV x v) (ry:RelV y u) (rz:RelV z w) (hq:∀ z w' s',Inv X pins σ H s'→RV W H S ρ ((bf kvs k).getD e) z→RelV z w'→Q w' s'):wpAny (model X.prog X.w) X.A (PySem.call (.builtin "dict.get") [v,u,w]) Q E s:=by
 obtain⟨a,rfl,c | c⟩:=eU hd R Rd
 ·obtain⟨rfl,ks,ea,rk⟩:=c
  obtain⟨kk,hkk,rfl⟩:=dq hk Rk
  cases rx
  have o:=rk.look hkk
  refine L2.d_get2 (A:=X.A) (by have:=xw.un;omega) I ((show L2.DGet _ _ _ _ from .inl ⟨_,_,ea,rfl,rfl⟩)) ry rz fun w' s' I' r'=>?_
  generalize valV ks kk=q at o r'
  generalize bf kvs k=p at o hq
  cases o with
  | none=>exact hq _ w' s' I' Re r'
  | some rz=>exact hq _ w' s' I' rz r'
 ·obtain⟨rfl,xs,ea,rt⟩:=c
  obtain⟨n,hn,dn⟩:=eZ hk
  obtain⟨b,rfl⟩:=bP hk Rk
  cases rx;cases ry
  obtain⟨dd,hs,_⟩:=c7 xw I ea rt
  obtain⟨w',r1,r2⟩:=fR (jj (rt.look hn)) Re rz
  rw[xw.P,xw.w]
  refine getOr_keyed (knd:=nestedKind W.P W.w) (kT xw (Nat.le_succ _)) ⟨c9 xw I hn Rk rfl,dn⟩ hs ⟨xs,dd,rfl⟩ ?_
  rw[valueAt_pairsH]
  exact hq _ _ _ (I.tok _) r1 r2
theorem eY (kvs:List (D×D)) (k v:D):(bz kvs k v).length≤kvs.length + 1:=by
 have rl:∀ kvs:List (D×D),(dX kvs k v).length=kvs.length:=fun kvs=>by
  induction kvs with
  | nil=>rfl
  | cons p r ih=>obtain⟨a,b⟩:=p;simp[dX,ih]
 unfold bz
 split
 ·rw[rl];omega
 ·simp
theorem hH {s':Shared} {a:Addr} {xs:List fC} {H1:HH} (hs:(a == sysModules)=false) (hz:xs.length≤sizeLine) (dd:s'.heap.DictOfH (nestedKind W.P W.w) a xs) (P:Program) (w:World):ObjOk P w H1 s'.heap a (cw W a xs):=by
 obtain⟨o,es,ep,ho,hc,hd,he,_,hn⟩:=dd
 refine⟨⟨hs,hz,o,es,ep,ho,hc,hd,he,hn⟩,⟨o,ho⟩,fun h1 h2 q st=>?_⟩
 obtain⟨q1,q2,o',es',ep',q3,q4⟩:=q
 exact⟨q1,q2,o',es',ep',st _ q3,q4⟩
theorem qf (xw:XW W X) (hA:A.units≤X.A.units + 1) (I:Inv X pins σ H s) (R:RH W H S ρ h) {n:Nat} {k e:D} {x y z:L2.V} {v u w:Value} {t kvs} {Q:Unit→Shared→Prop} (hn:h.get n=some (.dic t kvs)) (hk:aR t k=true) (hl:kvs.length < sizeLine)
  (Rd:RV W H S ρ (.ref n) x) (Rk:RV W H S ρ k y) (Re:RV W H S ρ e z) (rx:RelV x v) (ry:RelV y u) (rz:RelV z w)
  (hq:∀ H' s',Go S ρ h H S ρ (h.set n (.dic t (bz kvs k e))) H'→RH W H' S ρ (h.set n (.dic t (bz kvs k e)))→Inv X pins σ H' s'→Q () s'):wpAny (model X.prog X.w) A (setItem v u w) Q E s:=by
 cases Rd with
 | @ref n a q=>
  obtain⟨a',ho,q',ea,ns,ro⟩:=R.lv _ _ hn
  rw[q]at q';cases q'
  cases rx
  cases ro with
  | @dicK kvs ks rk=>
   obtain⟨kk,hkk,rfl⟩:=dq hk Rk
   refine L2.d_setItem (by have:=xw.un;omega) I (L2.DPut.k ea (by rw[← rk.len];exact hl)) ry rz fun s' I'=>?_
   obtain⟨g,R'⟩:=dc (o':=.dic false (bz kvs k e)) (ho':=.dK (putK ks kk z)) R hn q fun H' st=>.dicK ((rk.put hkk Re).mono' (fun _ z=>z) st fun _ _ e=>e)
   exact hq _ _ g R' I'
  | @dicT kvs xs rt=>
   obtain⟨m,hm,dm⟩:=eZ hk
   obtain⟨b,rfl⟩:=bP hk Rk
   cases ry
   obtain⟨dd,hs,hz⟩:=c7 xw I (.inl ea) rt
   have lz:(storedH xs m b w).length≤sizeLine:=by
    rw[← (rt.put hm dm Rk Re rz).len]
    have:=eY kvs k e
    omega
   rw[xw.P,xw.w]
   refine wpAny_setItem_heap (knd:=nestedKind W.P W.w) (hsz:=hz) (kT xw hA) ⟨c9 xw I hm Rk rfl,dm⟩ dd fun h' dd' hsb=>?_
   obtain⟨g,R'⟩:=dc (o':=.dic true (bz kvs k e)) (ho':=cw W a (storedH xs m b w)) R hn q fun H' st=>.dicT ((rt.put hm dm Rk Re rz).mono' (fun _ z=>z) st fun _ _ e=>e)
   refine hq _ _ g R' (L2.d_write I (by rw[ea];exact True.intro) hsb ?_ (hH (s':={ s with heap:=h' }) hs lz dd' _ _))
   obtain⟨o,_,_,ho,_⟩:=dd'
   exact⟨o,ho⟩
theorem uv (xw:XW W X) (I:Inv X pins σ H s) (R:RH W H S ρ h) {n:Nat} {k e:D} {x y z:L2.V} {v u w:Value} {kvs} {Q:Value→Shared→Prop} (hn:h.get n=some (.dic true kvs)) (hk:aR true k=true) (hl:kvs.length < sizeLine)
  (Rd:RV W H S ρ (.ref n) x) (Rk:RV W H S ρ k y) (Re:RV W H S ρ e z) (rx:RelV x v) (ry:RelV y u) (rz:RelV z w)
  (h1:∀ d z' w' s',bf kvs k=some d→Inv X pins σ H s'→RV W H S ρ d z'→RelV z' w'→Q w' s')
  (hq:∀ H' s',bf kvs k=none→Go S ρ h H S ρ (h.set n (.dic true (bz kvs k e))) H'→RH W H' S ρ (h.set n (.dic true (bz kvs k e)))→Inv X pins σ H' s'→Q w s'):wpAny (model X.prog X.w) X.A (PySem.call (.builtin "dict.setdefault") [v,u,w]) Q E s:=by
 cases Rd with
 | @ref n a q=>
  obtain⟨a',ho,q',ea,ns,ro⟩:=R.lv _ _ hn
  rw[q]at q';cases q'
  cases rx
  cases ro with
  | @dicT kvs xs rt=>
   obtain⟨m,hm,dm⟩:=eZ hk
   obtain⟨b,rfl⟩:=bP hk Rk
   cases ry
   obtain⟨dd,hs,hz⟩:=c7 xw I (.inl ea) rt
   have o:=rt.look hm
   have lz:(storedH xs m b w).length≤sizeLine:=by
    rw[← (rt.put hm dm Rk Re rz).len]
    have:=eY kvs k e
    omega
   rw[xw.P,xw.w]
   refine call_setdefault_heap (knd:=nestedKind W.P W.w) (hsz:=hz) (kT xw (Nat.le_succ _)) ⟨c9 xw I hm Rk rfl,dm⟩ hs dd (fun p hp=>?_) fun hnn h' dd' hsb=>?_
   ·generalize el:bf kvs k=l at o
    change atKey xs m=some p at hp
    rw[hp]at o
    cases o with
    | some rd ru=>exact h1 _ _ _ _ el (I.tok _) rd ru
   ·change atKey xs m=none at hnn
    generalize el:bf kvs k=l at o
    rw[hnn]at o
    cases o
    obtain⟨g,R'⟩:=dc (o':=.dic true (bz kvs k e)) (ho':=cw W a (storedH xs m b w)) R hn q fun H' st=>.dicT ((rt.put hm dm Rk Re rz).mono' (fun _ z=>z) st fun _ _ e=>e)
    refine hq _ _ el g R' (L2.d_write I (by rw[ea];exact True.intro) hsb ?_ (hH (s':={ s with heap:=h' }) hs lz dd' _ _))
    obtain⟨o,_,_,ho,_⟩:=dd'
    exact⟨o,ho⟩
end
open L2 (upd upd_same upd_ne ne_of ne_of_none Cx VK OpR SqL SqT Key kV Inv valV putK RelV HOk ObjOk IxR SlR TruR PSet PGet CallR MtR EP)
section
variable {W:Wd} {H H':HH} {S S':Addr→Prop} {ρ ρ':aq} {h h':Mm} {X:Cx} {pins:List (Addr×Obj)} {σ:L2.St} {s:Shared} {A:Around} {E:Value→Shared→Prop}
theorem ly (c:Nat):∀ l:List Nat,jS c l=decide (c∈l)
 | []=>by simp[jS]
 | d :: r=>by
  simp only[jS,ly c r,List.mem_cons,Bool.decide_or]
theorem iy {d:D} {x:L2.V} (hs:fw d=true) (r:RV W H S ρ d x):L2.flatV x=true:=by
 cases d<;>first | (cases r;rfl) | cases hs
theorem fY:∀ {ds:List D} {xs:List L2.V},dG ds=true→RVs W H S ρ ds xs→xs.all L2.flatV=true
 | [],_,_,.nil=>rfl
 | d :: r,_,h,.cons a t=>by
  simp only[dG,Bool.and_eq_true]at h
  simp[iy h.1 a,fY h.2 t]
theorem vp {d e:D} {x y:L2.V} (hd:fw d=true) (he:fw e=true) (rd:RV W H S ρ d x) (re:RV W H S ρ e y):L2.eqV x y=bB d e:=by
 cases d<;>first | cases hd | skip
 all_goals cases e<;>first | cases he | skip
 all_goals cases rd;cases re
 all_goals first
  | rfl
  | (simp only[L2.eqV,bB,b2i];rw[Bool.eq_iff_iff];simp)
 all_goals first
  | (rename_i b i;cases b<;>simp[b2i]<;>exact⟨fun h=>decide_eq_true h,fun h=>of_decide_eq_true h⟩)
  | (rename_i i b;cases b<;>simp[b2i]<;>exact⟨fun h=>decide_eq_true h,fun h=>of_decide_eq_true h⟩)
theorem gN {d:D} {x:L2.V} (hd:fw d=true) (rd:RV W H S ρ d x):∀ {ds:List D} {xs:List L2.V},dG ds=true→RVs W H S ρ ds xs→L2.inV x xs=dr d ds
 | [],_,_,.nil=>rfl
 | e :: r,_,h,.cons a t=>by
  simp only[dG,Bool.and_eq_true]at h
  have ih:=gN hd rd h.2 t
  unfold L2.inV at ih ⊢
  simp[dr,vp h.1 hd a rd,ih]
theorem gM {d:D} {n:Nat} (hd:bc d=some n):∀ {ds:List D} {m:Nat},bO ds=some m→(ba ds).any (fun z=>PyData.eqv z (aw d))=dr d ds
 | [],_,_=>rfl
 | e :: r,_,h=>by
  obtain⟨a,b,h1,h2,_⟩:=cg h
  simp[ba,dr,hZ h1 hd,gM hd h2]
theorem l0 {a:Str} {c:Nat} (h:a.cps.toList=[c]):a=⟨#[c]⟩:=by
 obtain⟨⟨l⟩⟩:=a
 simp only at h
 rw[h]
theorem nw (xw:XW W X) (neg:Bool) {x y:L2.V} {v u:Value} {Q:VK} {d e:D} {k:Bool} (I:Inv X pins σ H s) (rx:RelV x v) (ry:RelV y u) (Rd:RV W H S ρ d x) (Re:RV W H S ρ e y) (R:RH W H S ρ h)
  (hin:rT d e h=some k) (wq:Q (.bl (if neg then !k else k)) H):wpAny (model X.prog X.w) X.A (compareOp (if neg then .NotIn else .In) v u) (EP X pins σ Q) X.xe s:=by
 ·skip
  unfold rT at hin
  split at hin
  ·rename_i t kvs hd
   obtain⟨hk,hin⟩:=aa hin
   cases hin
   cases neg with
   | true=>exact vt xw I R hd hk Re Rd ry rx fun s' I'=>⟨.bl _,H,I',rfl,wq⟩
   | false=>exact zY xw I R hd hk Re Rd ry rx fun s' I'=>⟨.bl _,H,I',rfl,wq⟩
  ·split at hin
   ·rename_i a b
    split at hin
    ·rename_i c hc
     cases hin
     cases Rd;cases Re
     rw[ly]at wq
     cases neg with
     | true=>exact L2.op_notIn_sign pins s σ H _ _ v u Q I rx ry ⟨c,_,by rw[l0 hc],rfl,wq⟩
     | false=>exact L2.op_in_sign pins s σ H _ _ v u Q I rx ry ⟨c,_,by rw[l0 hc],rfl,wq⟩
    ·cases hin
   ·split at hin
    ·rename_i ys hys
     cases hb:(fw d&&dG ys) with
     | true=>
      rw[hb]at hin
      cases hin
      rw[Bool.and_eq_true]at hb
      obtain⟨a,vs,rfl,rv,c⟩:=mZ hys R Re
      have c':SqL X.K H a vs∨SqT X.K H a vs:=by
       rcases c with c | c
       ·exact .inl (xw.sq c)
       ·exact .inr (c.sq xw.K)
      cases neg with
      | true=>exact L2.op_notIn_seq pins s σ H _ _ v u Q I rx ry ⟨a,vs,rfl,c',iy hb.1 Rd,fY hb.2 rv,by rw[gN hb.1 Rd hb.2 rv];exact wq⟩
      | false=>exact L2.op_in_seq pins s σ H _ _ v u Q I rx ry ⟨a,vs,rfl,c',iy hb.1 Rd,fY hb.2 rv,by rw[gN hb.1 Rd hb.2 rv];exact wq⟩
     | false=>
      rw[hb]at hin
      simp only[cond_false]at hin
      split at hin
      ·rename_i a bs g1 g2
       cases hin
       obtain⟨d1,s1,m1,n1⟩:=cP xw.K R g1 Rd
       obtain⟨d2,s2,m2,n2⟩:=cP xw.K R g2 Re
       obtain⟨m3,n3,_⟩:=cK n2
       obtain⟨as,r1⟩:=L2.Dp.reads I _ x v d1 rx
       obtain⟨bs',r2⟩:=L2.Dp.reads I _ y u d2 ry
       have hu:=PyProof.Rows.room_in_shaped (xs:=ba bs) s1 (qj xw)
       have e:=gM n1 n3
       cases neg with
       | true=>exact SeqAt.notIn_tuple_reads r2 r1 (by simpa [aw,PyData.canLay0] using SeqAt.canLay_of_shaped s2) (SeqAt.canLay_of_shaped s1) hu ⟨.bl _,H,I,rfl,by rw[e];exact wq⟩
       | false=>exact SeqAt.in_tuple_reads r2 r1 (by simpa [aw,PyData.canLay0] using SeqAt.canLay_of_shaped s2) (SeqAt.canLay_of_shaped s1) hu ⟨.bl _,H,I,rfl,by rw[e];exact wq⟩
      ·rename_i a bs g1 g2
       cases hin
       obtain⟨d1,s1,m1,n1⟩:=cP xw.K R g1 Rd
       obtain⟨d2,s2,m2,n2⟩:=cP xw.K R g2 Re
       obtain⟨m3,n3,_⟩:=bX n2
       have e:=gM n1 n3
       cases neg with
       | true=>exact L2.op_notInD (qj xw) pins s σ H _ _ v u Q I rx ry ⟨_,_,d1,d2,s1,s2,by rw[e];exact wq⟩
       | false=>exact L2.op_inD (qj xw) pins s σ H _ _ v u Q I rx ry ⟨_,_,d1,d2,s1,s2,by rw[e];exact wq⟩
      ·cases hin
    ·cases hin
def cm:Cm→CmpOp
 | .eq=>.Eq | .ne=>.NotEq | .lt=>.Lt | .le=>.LtE | .gt=>.Gt | .ge=>.GtE | .is=>.Is | .isn=>.IsNot | .inn=>.In | .nin=>.NotIn
theorem iR (xw:XW W X) (o:Cm):OpR X (compareOp (cm o)) (rQ W (cmpD o)):=by
 cases o with
 | eq=>exact zK xw
 | ne=>exact AN xw
 | lt=>
  rintro pins s σ H x y v u Q I rx ry ⟨S,ρ,h,d,e,k,Rd,Re,R,hf,wq⟩
  simp only[cmpD]at hf
  split at hf
  ·cases hf;cases Rd;cases Re;exact L2.op_lt pins s σ H _ _ v u Q I rx ry ⟨_,_,rfl,rfl,wq⟩
  ·cases hf
 | le=>
  rintro pins s σ H x y v u Q I rx ry ⟨S,ρ,h,d,e,k,Rd,Re,R,hf,wq⟩
  simp only[cmpD]at hf
  split at hf
  ·cases hf;cases Rd;cases Re;exact L2.op_le pins s σ H _ _ v u Q I rx ry ⟨_,_,rfl,rfl,wq⟩
  ·cases hf
 | gt=>
  rintro pins s σ H x y v u Q I rx ry ⟨S,ρ,h,d,e,k,Rd,Re,R,hf,wq⟩
  simp only[cmpD]at hf
  split at hf
  ·cases hf;cases Rd;cases Re;exact L2.op_gt pins s σ H _ _ v u Q I rx ry ⟨_,_,rfl,rfl,wq⟩
  ·cases hf
 | ge=>
  rintro pins s σ H x y v u Q I rx ry ⟨S,ρ,h,d,e,k,Rd,Re,R,hf,wq⟩
  simp only[cmpD]at hf
  split at hf
  ·cases hf;cases Rd;cases Re;exact L2.op_ge pins s σ H _ _ v u Q I rx ry ⟨_,_,rfl,rfl,wq⟩
  ·cases hf
 | is=>
  rintro pins s σ H x y v u Q I rx ry ⟨S,ρ,h,d,e,k,Rd,Re,R,hf,wq⟩
  simp only[cmpD]at hf
  split at hf
  ·cases hf;cases Rd;cases Re;exact L2.op_isN pins s σ H _ _ v u Q I rx ry ⟨rfl,wq⟩
  ·rename_i hne
   cases hf;cases Re
   refine L2.op_isN pins s σ H _ _ v u Q I rx ry ⟨rfl,?_⟩
   rw[decide_eq_false]
   ·exact wq
   ·rintro rfl;cases Rd;exact hne rfl
  ·rename_i a b
   cases hf;cases Rd;cases Re
   refine L2.op_isBl pins s σ H _ _ v u Q I rx ry ⟨_,_,rfl,rfl,?_⟩
   cases a<;>cases b<;>exact wq
  ·cases hf
 | isn=>
  rintro pins s σ H x y v u Q I rx ry ⟨S,ρ,h,d,e,k,Rd,Re,R,hf,wq⟩
  simp only[cmpD]at hf
  split at hf
  ·cases hf;cases Rd;cases Re;exact L2.op_notN pins s σ H _ _ v u Q I rx ry ⟨rfl,wq⟩
  ·rename_i hne
   cases hf;cases Re
   refine L2.op_notN pins s σ H _ _ v u Q I rx ry ⟨rfl,?_⟩
   rw[decide_eq_false]
   ·exact wq
   ·rintro rfl;cases Rd;exact hne rfl
  ·rename_i a b
   cases hf;cases Rd;cases Re
   refine L2.op_notBl pins s σ H _ _ v u Q I rx ry ⟨_,_,rfl,rfl,?_⟩
   cases a<;>cases b<;>exact wq
  ·cases hf
 | inn=>
  rintro pins s σ H x y v u Q I rx ry ⟨S,ρ,h,d,e,k,Rd,Re,R,hf,wq⟩
  exact nw xw false I rx ry Rd Re R hf wq
 | nin=>
  rintro pins s σ H x y v u Q I rx ry ⟨S,ρ,h,d,e,k,Rd,Re,R,hf,wq⟩
  simp only[cmpD]at hf
  split at hf
  ·rename_i k' hin
   cases hf
   exact nw xw true I rx ry Rd Re R hin wq
  ·cases hf
end
section
variable {W:Wd} {H H':HH} {S S':Addr→Prop} {ρ ρ':aq} {h h':Mm} {X:Cx} {pins:List (Addr×Obj)} {σ:L2.St} {s:Shared} {A:Around} {E:Value→Shared→Prop}
theorem jT (n:Nat) (i:Int):ixN n i=L2.ixN n i:=rfl
theorem yg {xs:List D} {vs:List L2.V} {i:Int} {d:D} (r:RVs W H S ρ xs vs) (e:jc xs i=some d):∃ v,L2.atI vs i=some v∧RV W H S ρ d v:=by
 unfold jc at e
 split at e
 ·rename_i j hj
  obtain⟨v,h1,h2⟩:=r.get e
  refine⟨v,?_,h2⟩
  unfold L2.atI
  rw[← r.len,← jT,hj]
  exact h1
 ·cases e
theorem l9:∀ (l:List Nat) (i:Nat),il l i=l[i]?
 | [],i=>by simp[il]
 | _ :: _,0=>rfl
 | _ :: r,i + 1=>by simp[il,l9 r i]
def rX (W:Wd):L2.R2:=fun x y H Q=>∃ S ρ h d e r,RV W H S ρ d x∧RV W H S ρ e y∧RH W H S ρ h∧br d e h=some r∧∀ v,RV W H S ρ r v→Q v H
theorem lf (xw:XW W X) (I:Inv X pins σ H s) (R:RH W H S ρ h) {d:D} {x:L2.V} {v:Value} {t kvs} (hd:dictOf h d=some (t,kvs)) (r:RV W H S ρ d x) (rx:RelV x v):
  s.TypeIs v "dict"∧∀ a,v = .ref a→∃ ob,s.heap.get? a=some ob∧ob.dict=none:=by
 obtain⟨a,rfl,c | c⟩:=eU hd R r
 ·obtain⟨_,ks,ea,_⟩:=c
  cases rx
  obtain⟨_,_,_,_,o,_,_,e,ex,_⟩:=ea.ok I.hok
  exact⟨⟨o,e,ex.1⟩,fun b q=>by cases q;exact⟨o,e,ex.2.1⟩⟩
 ·obtain⟨_,xs,ea,rt⟩:=c
  cases rx
  obtain⟨⟨o,es,ep,e,ex,_⟩,_,_⟩:=c7 xw I ea rt
  exact⟨⟨o,e,ex.1⟩,fun b q=>by cases q;exact⟨o,e,ex.2.1⟩⟩
theorem wk {x:Str} {i:Int} {d:D} (e:(match ixN x.length i with | some j=>(il x.cps.toList j).map fun c=>D.str ⟨#[c]⟩ | none=>none)=some d):∃ c,L2.atI x.cps.toList i=some c∧d = .str ⟨#[c]⟩:=by
 split at e
 ·rename_i j hj
  obtain⟨c,h1,rfl⟩:=Option.map_eq_some_iff.mp e
  refine⟨c,?_,rfl⟩
  unfold L2.atI
  have hl:x.cps.toList.length=x.length:=by simp[Str.length]
  rw[hl,← jT,hj]
  rw[l9]at h1
  exact h1
 ·cases e
theorem y9 (xw:XW W X):IxR X (rX W):=by
 rintro value slice pins s σ H x y v u Q I rx ry ⟨S,ρ,h,d,e,r,Rd,Re,R,hf,wq⟩ hs
 unfold br at hf
 split at hf
 ·obtain⟨hc,hf⟩:=aa hf
  cases Rd;cases Re
  obtain⟨c,h1,rfl⟩:=wk hf
  exact L2.ix_str value slice pins s σ H _ _ v u Q I rx ry ⟨_,_,c,rfl,rfl,aK hc,h1,wq _ (.str _)⟩ hs
 ·split at hf
  ·rename_i t kvs hd
   obtain⟨hk,hf⟩:=aa hf
   exact PyProof.Rows.tail_any (lf xw I R hd Rd rx).1 PySem.F.slot_dict_getitem.lookup (jU xw (Nat.le_succ _) I R hd hk Rd Re rx ry hf fun z w' s' I' r1 r2=>⟨z,H,I',r2,wq z r1⟩) hs
  ·split at hf
   ·rename_i i xs hxs hne
    cases Re
    obtain⟨a,vs,rfl,rv,c⟩:=mZ hxs R Rd
    obtain⟨z,h1,h2⟩:=yg rv hf
    rcases c with c | c
    ·exact L2.ix_list value slice pins s σ H _ _ v u Q I rx ry ⟨a,vs,i,z,rfl,rfl,xw.sq c,h1,wq z h2⟩ hs
    ·exact L2.ix_tup value slice pins s σ H _ _ v u Q I rx ry ⟨a,vs,i,z,rfl,rfl,c.sq xw.K,h1,wq z h2⟩ hs
   ·cases hf
def Ab (W:Wd):L2.R2:=fun x y H Q=>∃ S ρ h d e r,RV W H S ρ d x∧RV W H S ρ e y∧RH W H S ρ h∧((dictOf h d).isSome||(listOf h d).isSome)=true∧br d e h=some r∧∀ v,RV W H S ρ r v→Q v H
theorem yH (xw:XW W X):PGet X (Ab W):=by
 rintro pins s σ H x y v u Q I rx ry ⟨S,ρ,h,d,e,r,Rd,Re,R,hs,hf,wq⟩
 unfold br at hf
 split at hf
 ·cases hs
 ·split at hf
  ·rename_i t kvs hd
   obtain⟨hk,hf⟩:=aa hf
   exact jU xw (Nat.le_succ _) I R hd hk Rd Re rx ry hf fun z w' s' I' r1 r2=>⟨z,H,I',r2,wq z r1⟩
  ·rename_i hd
   rw[hd]at hs
   obtain⟨xs,hx⟩:=Option.isSome_iff_exists.mp (show (listOf h d).isSome=true from hs)
   split at hf
   ·rename_i i ys hy hne
    cases Re
    obtain⟨a,vs,rfl,ea,rv⟩:=bG hx R Rd
    have hxy:xs=ys:=by
     cases d with
     | tup _=>cases hx
     | lst zs=>cases hx;cases hy;rfl
     | frl _=>cases hx
     | ref n=>
      simp only[listOf]at hx
      simp only[bN]at hy
      cases g:h.get n with
      | none=>simp[g]at hx
      | some o=>
       cases o with
       | lst zs=>simp[g]at hx hy;rw[← hx,← hy]
       | _=>simp[g]at hx
     | _=>cases hx
    subst hxy
    obtain⟨z,h1,h2⟩:=yg rv hf
    cases rx
    obtain⟨t,rfl⟩:=ry
    obtain⟨its,r,pl,hz⟩:=I.list (SqL.of ea)
    obtain⟨j,q1,q2,q3,q4,q5⟩:=L2.atI_get h1
    obtain⟨w,ew,rw'⟩:=r.get q2
    have hl:=r.length
    have hn:=L2.line63
    have fin:EP X pins σ Q w s:=⟨z,H,I,rw',wq z h2⟩
    by_cases h0:0≤i
    ·have hj:i.toNat=j:=by
      rw[PySem.seqIndex_of h0 q5]at q1
      exact Option.some.inj q1
     exact wpAny_getItem_list pl.isList h0 (by omega) (by rw[hj];simpa using ew) fin
    ·have hj:(i + (its.toArray.size:Int)).toNat=j:=by
      rw[PySem.seqIndex_neg (by omega) q4]at q1
      rw[List.size_toArray,← hl]
      exact Option.some.inj q1
     exact wpAny_getItem_list_neg pl.isList (by omega) (by rw[List.size_toArray]<;>omega) (by omega) (by rw[hj];simpa using ew) fin
   ·cases hf
def rS (W:Wd):L2.TSet:=fun x y z H Q=>∃ S ρ h d e r h',RV W H S ρ d x∧RV W H S ρ e y∧RV W H S ρ r z∧RH W H S ρ h∧fu d e r h=some h'∧∀ H',Go S ρ h H S ρ h' H'→RH W H' S ρ h'→Q H'
theorem vz (xw:XW W X):PSet X (rS W):=by
 rintro pins s σ H x y z v u w Q I rx ry rz ⟨S,ρ,h,d,e,r,h',Rd,Re,Rr,R,hf,wq⟩
 unfold fu at hf
 split at hf
 ·rename_i n
  split at hf
  ·rename_i xs i hn
   split at hf
   ·rename_i j hj
    cases hf
    cases Re
    cases Rd with
    | @ref n a q=>
     obtain⟨a',ho,q',ea,ns,ro⟩:=R.lv _ _ hn
     rw[q]at q';cases q'
     cases ro with
     | lst rv=>
      obtain⟨g,R'⟩:=dc (o':=.lst (xs.set j r)) (ho':=.lst (List.set _ j z)) R hn q fun H' st=>.lst ((rv.set Rr j).mono' (fun _ z=>z) st fun _ _ e=>e)
      exact L2.set_list pins s σ H _ _ _ v u w Q I rx ry rz ⟨a,_,i,j,rfl,rfl,ea,by rw[← rv.len,← jT];exact hj,wq _ g R'⟩
   ·cases hf
  ·rename_i t kvs i hn
   obtain⟨hc,hf⟩:=aa hf
   cases hf
   rw[Bool.and_eq_true]at hc
   have hl:=aK hc.2
   exact qf xw (Nat.le_succ _) I R hn hc.1 (by omega) Rd Re Rr rx ry rz fun H' s' g R' I'=>⟨H',I',wq H' g R'⟩
  ·cases hf
 ·cases hf
theorem xY {xs:List D} {vs:List L2.V} (r:RVs W H S ρ xs vs):xs.isEmpty=vs.isEmpty:=by cases r<;>rfl
theorem i4 (xw:XW W X) {d:D} {x:L2.V} {k:Bool} (R:RH W H S ρ h) (r:RV W H S ρ d x) (e:cu h d=some k):L2.TruV X.K x H k:=by
 unfold cu at e
 split at e
 ·cases e;cases r;rfl
 ·cases e;cases r;rfl
 ·cases e;cases r;rfl
 ·obtain⟨hc,e⟩:=aa e
  cases e;cases r;exact⟨aK hc,rfl⟩
 ·split at e
  ·rename_i xs hx
   cases e
   obtain⟨a,vs,rfl,rv,c⟩:=mZ hx R r
   rcases c with c | c
   ·exact .inl ⟨vs,xw.sq c,by rw[xY rv]⟩
   ·exact .inr (.inl ⟨vs,c.sq xw.K,by rw[xY rv]⟩)
  ·cases e
def A9 (W:Wd) (z:Bool):L2.V→Option Int→Option Int→HH→VK→Prop:=fun x lo hi H Q=>∃ S ρ h d r h',RV W H S ρ d x∧RH W H S ρ h∧rF z d lo hi h=some (r,h')∧aN W S ρ h H r h' Q
theorem uj (x:Str) (lo hi:Option Int):(⟨(cut x.cps.toList lo hi).toArray⟩:Str)=L2.cutS x lo hi:=by
 unfold cut L2.cutS
 have hl:x.cps.toList.length=x.length:=by simp[Str.length]
 rw[hl,gZ,gZ]
theorem zG (xw:XW W X) (z:Bool):SlR X (A9 W z):=by
 rintro pins s σ H x v vl vu lo hi sl Q I rx hs pl pu ⟨S,ρ,h,d,r,h',Rd,R,hf,wq⟩
 unfold rF at hf
 split at hf
 ·obtain⟨hc,hf⟩:=aa hf
  cases hf;cases Rd
  exact L2.sl_str pins s σ H _ v vl vu lo hi sl Q I rx hs pl pu ⟨_,rfl,aK hc,by rw[← uj];exact ad R wq (.str _)⟩
 ·cases hf
  cases Rd with
  | @tup a vs xs t rv=>
   refine L2.sl_tupA pins s σ H _ v vl vu lo hi sl Q I rx hs pl pu ⟨_,_,rfl,t.sq xw.K,fun e=>?_,fun _ p hp=>cZ R wq (rv.cut lo hi) hp⟩
   refine ad R wq (.tup t ?_)
   have:=rv.cut lo hi
   unfold L2.cutV at this
   rw[e.1,e.2]at this
   simpa using this
 ·split at hf
  ·rename_i xs hx
   obtain⟨rfl,rfl⟩:=bw hf
   obtain⟨a,vs,rfl,e,rv⟩:=bG hx R Rd
   exact L2.sl_list pins s σ H _ v vl vu lo hi sl Q I rx hs pl pu ⟨_,_,rfl,SqL.of e,fun p hp=>dA R wq (rv.cut lo hi) hp⟩
  ·cases hf
end
open L2 (upd upd_same upd_ne ne_of ne_of_none Cx VK OpR SqL SqT Key kV Inv valV putK RelV HOk ObjOk IxR SlR TruR PSet PGet CallR MtR EP KV)
open PySem PySem.Calls PyProof.Rows PyProof.V PySem.Spec
open L2 (upd upd_same upd_ne Cx VK SqL SqT Inv RelV HOk ObjOk EP V Hp MtM)
open PySem.SeqAt (EqP EqIn)
end Ev
end
section
namespace L2
open PySem PySem.Spec PyProof.Rows
section
variable {prog:Program} {w:World} {A:Around} {E:Value→Shared→Prop}
def mergedH:List (NestedKey×Addr×Value)→List (NestedKey×Addr×Value)→List (NestedKey×Addr×Value)
 | acc,[]=>acc
 | acc,(k,a,v) :: r=>mergedH (storedH acc k a v) r
theorem jn {R:Result→Shared→Prop} {S I l:Addr} {items:Array Value} {res:Value} (hu:A.in1.units + 8 < cLine) (hh:A.handled=none) (hlI:l≠I) (hSI:S≠I) (hSl:S≠l):
  ∀ (rest:List (NestedKey×Addr×Value)) (i:Nat) (acc:List (NestedKey×Addr×Value)) (ix:Int) (t:Tok) (s:Shared),items.size=i + rest.length→acc.length + rest.length≤sizeLine →
   (∀ (j:Nat) (q:NestedKey×Addr×Value),rest[j]? = some q→∃ b:Addr,items[i + j]? = some (.ref b)∧b≠S∧b≠I∧IsTup s.heap b #[.ref q.2.1,q.2.2]∧NestedIs s.heap q.1 (.ref q.2.1)∧q.1.depth≤8) →
   s.heap.IsListIter I l i→s.heap.IsList l items→s.heap.DictOfH (nestedKind prog w) S acc →
   (∀ h' tk,h'.DictOfH (nestedKind prog w) S (mergedH acc rest)→(∀ b o,b≠S→b≠I→s.heap.get? b=some o→h'.get? b=some o)→R (.ok (.ret res)) { s with heap:=h',toks:=tk }) →
   codeAny (model prog w) A (.builtin "dict.update.loop" ⟨[.ref S,.ref I,.int ix t,res],[]⟩) R s
 | [],i,acc,ix,t,s,hsz,hln,ht,hit,hl,hm,hR=>by
  refine codeAny_builtin ud_entry ?_
  rw[Around.under_plainId ud_plain _]
  show wpAny _ A.in1 (pyNext (.ref I) >>= _) _ _ s
  refine wpAny_bind (wpAny_pyNext_list_end (A:=A.in1) hh hit hl (by first | exact Array.getElem?_eq_none (Nat.le_of_eq hsz) | (simp at hsz;simp;omega)) fun h' he=>?_)
  show wpAny _ A.in1 (Builtin.Dict.addKeywords S [] >>= _) _ _ _
  refine wpAny_bind (wpAny_pure (wpAny_pure ?_))
  refine hR h' s.toks ?_ fun b o _ hb e=>he b o hb e
  obtain⟨o,es,ep,ho,hc,hd,hee,his,hn⟩:=hm
  obtain⟨oi,hoi,_,hdi⟩:=id hit
  refine⟨o,es,ep,he S o hSI ho,hc,hd,hee,fun x hx=>?_,hn⟩
  obtain⟨x1,x2⟩:=his x hx
  refine⟨NestedIs.at (fun b ob vs n hb hcq=>he b ob (fun z=>?_) hb) _ _ x1,x2⟩
  subst z
  rw[hoi]at hb
  cases hb
  rw[hdi]at hcq
  cases hcq
 | q :: rest,i,acc,ix,t,s,hsz,hln,ht,hit,hl,hm,hR=>by
  obtain⟨k,a,v⟩:=q
  obtain⟨b,hb,hbS,hbI,htup,hk,hkd⟩:=ht 0 (k,a,v) rfl
  rw[List.length_cons]at hsz hln
  obtain⟨oi,hoi,_,hdi⟩:=id hit
  have nI:∀ {h':Heap},Heap.SameBut I s.heap h'→∀ b o vs n,s.heap.get? b=some o→o.data = .seq vs n→h'.get? b=some o:=fun hs b o vs n e c=>hs.extBut b o (fun z=>by
   subst z
   rw[hoi]at e
   cases e
   rw[hdi]at c
   cases c) e
  refine codeAny_builtin ud_entry ?_
  rw[Around.under_plainId ud_plain _]
  show wpAny _ A.in1 (pyNext (.ref I) >>= _) _ _ s
  refine wpAny_bind (wpAny_pyNext_list_item (x:=.ref b) hit hl (by simpa using hb) fun h1 hit1 hs1=>?_)
  have n1:=nI hs1
  have ye:IsTup h1 b #[.ref a,v]:=htup.extBut hs1.extBut hbI
  have hl1:h1.IsList l items:=hl.extBut hs1.extBut hlI
  have hm1:h1.DictOfH (nestedKind prog w) S acc:=by
   obtain⟨o,es,ep,ho,hc,hd,hee,his,hn⟩:=hm
   exact⟨o,es,ep,hs1.extBut S o hSI ho,hc,hd,hee,fun x hx=>⟨NestedIs.at n1 _ _ (his x hx).1,(his x hx).2⟩,hn⟩
  have hk1:NestedIs h1 k (.ref a):=NestedIs.at n1 _ _ hk
  obtain⟨o,ho,hc,n,hd⟩:=id ye
  show wpAny _ A.in1 (holding [Value.ref b] _ >>= _) _ _ _
  refine wpAny_bind (wpAny_holding ?_)
  refine wpAny_bind (wpAny_tryCatch ?_)
  unfold Builtin.Dict.pairItems
  refine wpAny_bind (wpAny_typeOf (T:="tuple") ⟨o,ho,hc⟩ ?_)
  rw[if_pos (by first | decide | rfl | simp)]
  refine wpAny_bind (wpAny_seqItems ho hd (wpAny_pure ?_))
  show wpAny _ A.in1 (holding [Value.ref a,v] (dictSet S (.ref a) v)) _ _ _
  obtain⟨oS,esS,epS,hoS,_,hdS,_⟩:=id hm1
  refine wpAny_holding (wpAny_dictSet_heap (knd:=nestedKind prog w) (k:=k) (hsz:=by omega) hu ⟨hk1,hkd⟩ hm1 fun h2 hm2 hs2=>?_)
  have n2:∀ b o vs n,h1.get? b=some o→o.data = .seq vs n→h2.get? b=some o:=fun b o vs n e c=>hs2.extBut b o (fun z=>by
   subst z
   rw[hoS]at e
   cases e
   rw[hdS]at c
   cases c) e
  refine wpAny_pure ⟨plainId_quiet ud_plain _,jn (items:=items) hu hh hlI hSI hSl rest (i + 1) (storedH acc k a v) (ix + 1) 0 _ (show items.size=i + 1 + rest.length by omega) ?_ (fun j q' e=>?_) ?_ ?_ hm2 fun h' tk hd' kp=>?_⟩
  ·have z:=storedH_length acc k a v
   omega
  ·obtain⟨b',hb',hbS',hbI',htup',hk',hkd'⟩:=ht (j + 1) q' (by simpa using e)
   refine⟨b',?_,hbS',hbI',(htup'.extBut hs1.extBut hbI').extBut hs2.extBut hbS',NestedIs.at n2 _ _ (NestedIs.at n1 _ _ hk'),hkd'⟩
   rw[show i + 1 + j=i + (j + 1) by omega]
   exact hb'
  ·exact hit1.at fun o' e=>hs2.extBut I o' (Ne.symm hSI) e
  ·exact hl1.extBut hs2.extBut (Ne.symm hSl)
  ·exact hR h' tk hd' fun c oc h3 h4 e=>kp c oc h3 h4 (hs2.extBut c oc h3 (hs1.extBut c oc h4 e))
theorem call_dict_pairsH {s:Shared} {l:Addr} {ol:Obj} {items:Array Value} {n:Nat} {prs:List (NestedKey×Addr×Value)} {Q:Value→Shared→Prop} (hu:A.in1.in1.units + 8 < cLine) (hh:A.handled=none) (hl:s.heap.get? l=some ol) (hc:ol.cls = .type "list") (hd:ol.dict=none)
  (hdat:ol.data = .seq items n) (hsz:items.size=prs.length) (hln:prs.length≤sizeLine)
  (ht:∀ (j:Nat) (q:NestedKey×Addr×Value),prs[j]? = some q→∃ b:Addr,items[j]? = some (.ref b)∧IsTup s.heap b #[.ref q.2.1,q.2.2]∧NestedIs s.heap q.1 (.ref q.2.1)∧q.1.depth≤8)
  (h:∀ h' tk,h'.DictOfH (nestedKind prog w) s.heap.objs.size (mergedH [] prs)→(∀ b o,s.heap.get? b=some o→h'.get? b=some o)→Q (.ref s.heap.objs.size) { s with heap:=h',toks:=tk }):
  wpAny (model prog w) A (call (.type "dict") [.ref l]) Q E s:=by
 refine callType_codes (Q₁:=fun obj s₁=>obj = .ref s.heap.objs.size∧s₁ = { s with heap:=s.heap.push { cls:=.type "dict",data:=.dict #[] } }) PySem.F.kt_called_dict (PySem.F.kt_typeCall_dict_1 _) PySem.F.entry_dict_init (kt_code_dict_new _ ⟨rfl,rfl⟩) ?_
 rintro obj s₁ ⟨rfl,rfl⟩
 have hnew:(s.heap.push { cls:=.type "dict",data:=.dict #[] }).DictOf (mixKind prog w) s.heap.objs.size []:=Heap.DictOf.new s.heap
 have k0:∀ b o,s.heap.get? b=some o→(s.heap.push { cls:=.type "dict",data:=.dict #[] }).get? b=some o:=fun b o e=>Heap.get?_push_of_some _ e
 refine⟨hnew.typeIs,PySem.F.args_dict_init_2 _ _,?_⟩
 unfold Builtin.«dict.__init__»
 refine wpAny_bind ?_
 unfold Builtin.Dict.selfAndRest
 refine wpAny_bind (wpAny_notOrdered_dict hnew.typeIs ?_)
 show wpAny _ _ (pure (s.heap.objs.size,[Value.ref l])) _ _ _
 refine wpAny_pure ?_
 show wpAny _ _ (Builtin.Dict.updateFrom "dict.__init__" s.heap.objs.size (.ref l) [] .none) _ _ _
 unfold Builtin.Dict.updateFrom
 refine wpAny_bind (wpAny_typeOf (T:="list") ⟨ol,k0 _ _ hl,hc⟩ ?_)
 rw[if_pos (by first | decide | rfl | simp)]
 refine wpAny_bind (miss_list (k0 _ _ hl) hc hdat hd hh fun h1 tk1 hk1=>?_)
 rw[if_pos (show (none:Option Value).isNone=true from rfl)]
 refine wpAny_bind (wpAny_rule ?_)
 have hl1:h1.IsList l items:=⟨ol,hk1 _ _ (k0 _ _ hl),hc,n,hdat⟩
 have e0:(s.heap.push { cls:=.type "dict",data:=.dict #[] }).get? s.heap.objs.size=some { cls:=.type "dict",data:=.dict #[] }:=Heap.get?_push_size _ rfl
 have hS1:s.heap.objs.size < h1.objs.size:=Heap.lt_size (hk1 _ _ e0)
 refine wpAny_bind (wpAny_pyIter_list hl1 ?_)
 have k2:∀ b o,h1.get? b=some o→(h1.push { cls:=.type "list_iterator",data:=.fields #[.ref l,.int 0 0] }).get? b=some o:=fun b o e=>Heap.get?_push_of_some _ e
 have hlt:l < s.heap.objs.size:=Heap.lt_size hl
 have dn:(h1.push { cls:=.type "list_iterator",data:=.fields #[.ref l,.int 0 0] }).DictOfH (nestedKind prog w) s.heap.objs.size []:=
  ⟨_,#[],0,k2 _ _ (hk1 _ _ e0),⟨rfl,rfl,rfl⟩,rfl,rfl,fun x hx=>(by cases hx),List.nodup_nil⟩
 have key:=jn (prog:=prog) (w:=w) (A:=A.in1) (R:=wants (fun r s₂=>r = .none∧Q (.ref s.heap.objs.size) s₂) E) (S:=s.heap.objs.size) (I:=h1.objs.size) (l:=l) (items:=items) (res:=Value.none) hu hh
  (Nat.ne_of_lt (Nat.lt_trans hlt hS1)) (Nat.ne_of_lt hS1) (Nat.ne_of_gt hlt) prs 0 [] 0 0
  { s with heap:=h1.push { cls:=.type "list_iterator",data:=.fields #[.ref l,.int 0 0] },toks:=tk1 } (by rw[hsz,Nat.zero_add]) (by rw[List.length_nil,Nat.zero_add];exact hln)
  (fun j q e=>by
   obtain⟨b,e1,e2,e3,e4⟩:=ht j q e
   have hb:b < s.heap.objs.size:=e2.lt
   exact⟨b,by rw[Nat.zero_add];exact e1,Nat.ne_of_lt hb,Nat.ne_of_lt (Nat.lt_trans hb hS1),e2.keeps fun c o z=>k2 _ _ (hk1 _ _ (k0 _ _ z)),NestedIs.at (fun c o _ _ z _=>k2 _ _ (hk1 _ _ (k0 _ _ z))) _ _ e3,e4⟩)
  ⟨_,Heap.get?_push_size _ rfl,rfl,rfl⟩ (hl1.at fun o e=>k2 _ _ e) dn
  (fun h' tk hd' k=>⟨rfl,h h' tk hd' fun b o e=>k b o (Nat.ne_of_lt (Heap.lt_size e)) (Nat.ne_of_lt (Nat.lt_trans (Heap.lt_size e) hS1)) (k2 _ _ (hk1 _ _ (k0 _ _ e)))⟩)
 first
  | exact wpAny_pure ⟨plainId_quiet ud_plain _,key⟩
  | exact wpAny_bind (wpAny_pure (wpAny_pure ⟨plainId_quiet ud_plain _,key⟩))
end
end L2
namespace Ev
open PySem
open L2 (upd upd_same upd_ne Cx Inv RelV SqL SqT HOk ObjOk CallR VK)
section
variable {W:Wd} {X:Cx} {H H':HH} {S S':Addr→Prop} {ρ ρ':aq} {h h':Mm}
theorem g9:∀ {ps acc kvs:List (D×D)} {as ks:List fC},dj true acc ps=some kvs→RTs W H S ρ acc as→RTs W H S ρ ps ks→RTs W H S ρ kvs (L2.mergedH as ks)
 | [],acc,kvs,as,_,e,ra,.nil=>by cases e;exact ra
 | (k,v) :: r,acc,kvs,as,_,e,ra,.cons n dn rk rv ru rt=>by
  simp only[dj]at e
  obtain⟨hc,e⟩:=aa e
  have z:=g9 e (ra.put n dn rk rv ru) rt
  exact z
theorem jl:∀ {ps acc kvs:List (D×D)},dj true acc ps=some kvs→∀ p∈ps,aR true p.1=true
 | [],acc,kvs,e=>by simp
 | (k,v) :: r,acc,kvs,e=>by
  simp only[dj]at e
  obtain⟨hc,e⟩:=aa e
  rw[Bool.and_eq_true]at hc
  intro p hp
  rcases List.mem_cons.mp hp with rfl | hp
  ·exact hc.1
  ·exact jl e p hp
theorem oL {pins:List (Addr×Obj)} {σ:L2.St} {s:Shared} (xw:XW W X) (I:Inv X pins σ H s):∀ {xs:List D} {vs:List L2.V} {ps:List (D×D)} {its:List Value},dC xs=some ps→(∀ p∈ps,aR true p.1=true)→RVs W H S ρ xs vs→L2.Vals vs its →
  ∃ ks:List fC,RTs W H S ρ ps ks∧ks.length=its.length∧∀ (j:Nat) (q:fC),ks[j]? = some q→∃ b:Addr,its[j]? = some (.ref b)∧PyProof.Rows.IsTup s.heap b #[.ref q.2.1,q.2.2]∧NestedIs s.heap q.1 (.ref q.2.1)∧q.1.depth≤8
 | [],_,ps,_,e,_,.nil,.nil=>by cases e;exact⟨[],.nil,rfl,fun j q e=>by simp at e⟩
 | d :: r,_,ps,_,e,hk,.cons a t,.cons u0 ut=>by
  unfold dC at e
  split at e
  ·rename_i e1;cases e1
  ·rename_i k v r' e1
   cases e1
   split at e
   ·rename_i s' es
    cases e
    obtain⟨ks,h1,h2,h3⟩:=oL xw I es (fun p hp=>hk p (List.mem_cons_of_mem _ hp)) t ut
    cases a with
    | tup ta ra=>
     cases u0
     obtain⟨its2,rv2,ht⟩:=ta.isTup xw I
     cases ra with
     | cons rk rv=>cases rv with
      | cons rv rn=>
       cases rn
       obtain⟨n,hn,dn⟩:=eZ (hk _ (List.mem_cons_self ..))
       obtain⟨b,rfl⟩:=bP (hk _ (List.mem_cons_self ..)) rk
       obtain⟨u,y,rfl,ru,ry⟩:=L2.vals2 rv2
       cases ru
       refine⟨(n,b,y) :: ks,.cons hn dn rk rv ry h1,by rw[List.length_cons,List.length_cons,h2],fun j q e=>?_⟩
       cases j with
       | zero=>
        have e':(n,b,y)=q:=Option.some.inj e
        subst e'
        exact⟨_,rfl,ht,c9 xw I hn rk rfl,dn⟩
       | succ j=>
        obtain⟨c,e1,e2⟩:=h3 j q (by simpa using e)
        exact⟨c,by simpa using e1,e2⟩
   ·cases e
  ·cases e
theorem nh {pins:List (Addr×Obj)} {σ:L2.St} {s:Shared} {l:Addr} {vs:List L2.V} {xs:List D} {ps kvs:List (D×D)} {Q:L2.VK} (xw:XW W X) (I:Inv X pins σ H s) (R:RH W H S ρ h) (el:H l=some (.lst vs)) (r2:RVs W H S ρ xs vs) (hp:dC xs=some ps) (hk:dj true [] ps=some kvs)
  (q:∀ p ks,H p=none→(p == sysModules)=false→ks.length≤sizeLine→RTs W H S ρ kvs ks→Q (.ref p) (upd H p (cw W p ks))):
  wpAny (model X.prog X.w) X.A (PySem.call (.type "dict") [.ref l]) (L2.EP X pins σ Q) X.xe s:=by
 obtain⟨its,rv,pl,hz⟩:=I.list (SqL.of el)
 obtain⟨o,n,ho,hc,hd,hdat⟩:=pl
 obtain⟨ks,h1,h2,h3⟩:=oL xw I hp (jl hk) r2 rv
 have hzl:ks.length≤sizeLine:=by
  rw[h2,← Paired.length rv]
  exact hz
 have un:=xw.un
 refine L2.call_dict_pairsH (prs:=ks) ?_ (I.ok.hd xw.calm) ho hc hd hdat (by simp[h2]) hzl (fun j q' e=>?_) fun h' tk hd' k=>?_
 ·show X.A.units + 1 + 1 + 8 < cLine
  omega
 ·obtain⟨b,e1,e2,e3⟩:=h3 j q' e
  exact⟨b,by simpa using e1,e2,e3⟩
 ·have hm:(s.heap.objs.size == sysModules)=false:=beq_eq_false_iff_ne.mpr (Nat.ne_of_gt I.big)
  have rt:=g9 hk .nil h1
  have ml:(L2.mergedH [] ks).length≤sizeLine:=by
   have g:∀ (r acc:List fC),(L2.mergedH acc r).length≤acc.length + r.length:=fun r=>by
    induction r with
    | nil=>intro acc;exact Nat.le_refl _
    | cons x r ih=>
     intro acc
     obtain⟨k,a,v⟩:=x
     have:=ih (storedH acc k a v)
     have:=storedH_length acc k a v
     simp only[L2.mergedH,List.length_cons]
     omega
   have:=g ks []
   simp only[List.length_nil]at this
   omega
  rw[xw.P,xw.w]at hd'
  exact⟨.ref s.heap.objs.size,upd H s.heap.objs.size (cw W s.heap.objs.size (L2.mergedH [] ks)),I.laid (t':=tk) k (Nat.le_refl _) (hH (s':={ s with heap:=h' }) hm ml hd' _ _),rfl,q _ _ (I.hok.fresh (Nat.le_refl _)) hm ml rt⟩
end
open L2 (upd upd_same upd_ne ne_of ne_of_none Cx VK OpR SqL SqT Key kV Inv valV putK RelV HOk ObjOk IxR SlR TruR PSet PGet CallR MtR EP)
section
variable {W:Wd} {H H':HH} {S S':Addr→Prop} {ρ ρ':aq} {h h':Mm} {X:Cx} {pins:List (Addr×Obj)} {σ:L2.St} {s:Shared} {A:Around} {E:Value→Shared→Prop}
def rC (W:Wd) (f:List D→Mm→Option (D×Mm)):List L2.V→HH→VK→Prop:=fun xs H Q=>∃ S ρ h ds r h',RVs W H S ρ ds xs∧RH W H S ρ h∧f ds h=some (r,h')∧aN W S ρ h H r h' Q
def vj:Bt→Value
 | .len=>.builtin "len" | .abs=>.builtin "abs" | .max2=>.builtin "max" | .maxL=>.builtin "max" | .min2=>.builtin "min" | .sumL=>.builtin "sum"
 | .tupleOf=>.type "tuple" | .listOf=>.type "list" | .repr=>.builtin "repr" | .strOf=>.type "str" | .intOf=>.type "int"
 | .divmod=>.builtin "divmod"
 | .allL=>.builtin "all" | .anyL=>.builtin "any" | .dictOf=>.type "dict" | .sorted=>.builtin "sorted" | .dictOfT=>.type "dict"
theorem lA:∀ l:List Bool,mY l=l.all id
 | []=>rfl
 | i :: r=>by simp[mY,lA r]
theorem vS:∀ {ds:List D} {vs:List L2.V} {ns:List Bool},rL ds=some ns→RVs W H S ρ ds vs→vs=ns.map L2.V.bl
 | [],_,_,e,.nil=>by cases e;rfl
 | d :: r,_,ns,e,.cons a t=>by
  cases d with
  | bl i=>
   simp only[rL]at e
   split at e
   ·cases e
    cases a
    simp[vS (by assumption) t]
   ·cases e
  | _=>cases e
theorem bt {ds:List D} {xs:List L2.V} {d:D} (e:ds=[d]) (r:RVs W H S ρ ds xs):∃ v,xs=[v]∧RV W H S ρ d v:=by
 subst e
 cases r with
 | cons a t=>cases t;exact⟨_,rfl,a⟩
theorem lx {d e:D} {v:L2.V} (hd:dh h d=some e) (rv:RV W H S ρ d v) {xs:List D} (he:e = .tup xs∨e = .lst xs:=by first | exact .inl rfl | exact .inr rfl):∃ a,v = .ref a:=by
 have key:∀ d:D,aD d=true→(∀ xs,d≠.tup xs)→(∀ xs,d≠.lst xs)→(∀ n,d≠.ref n)→dh h d=some e→d=e:=fun d hp _ _ _ q=>by
  unfold dh at q
  split at q
  ·rename_i x g
   have g:(bif aD d then some d else _)=some x:=g
   rw[hp]at g
   cases g
   split at q
   ·obtain⟨_,q⟩:=aa q;cases q;rfl
   ·cases q
  ·cases q
 cases rv with
 | tup _ _=>exact⟨_,rfl⟩
 | lst _ _ _=>exact⟨_,rfl⟩
 | ref _=>exact⟨_,rfl⟩
 | dicK _ _ _=>exact⟨_,rfl⟩
 | dicT _ _ _=>exact⟨_,rfl⟩
 | ins _ _ _=>exact⟨_,rfl⟩
 | frl _ _=>exact⟨_,rfl⟩
 | kd _=>exact⟨_,rfl⟩
 | fn _=>exact⟨_,rfl⟩
 | non=>have:=key .non rfl (fun _ z=>nomatch z) (fun _ z=>nomatch z) (fun _ z=>nomatch z) hd;subst this;rcases he with z | z<;>cases z
 | bl b=>have:=key (.bl b) rfl (fun _ z=>nomatch z) (fun _ z=>nomatch z) (fun _ z=>nomatch z) hd;subst this;rcases he with z | z<;>cases z
 | int b=>have:=key (.int b) rfl (fun _ z=>nomatch z) (fun _ z=>nomatch z) (fun _ z=>nomatch z) hd;subst this;rcases he with z | z<;>cases z
 | str b=>have:=key (.str b) rfl (fun _ z=>nomatch z) (fun _ z=>nomatch z) (fun _ z=>nomatch z) hd;subst this;rcases he with z | z<;>cases z
theorem i5 (xw:XW W X) (gd:X.A.guards=some []) (I:Inv X pins σ H s) (R:RH W H S ρ h) {d e:D} {v:L2.V} {u:Value} {Q:VK} (hd:dh h d=some e) (rv:RV W H S ρ d v) (ru:RelV v u) (ha:∃ a,v = .ref a)
  (hc:((aw e).showable&&Nat.ble (aw e).shown.length most)=true) (hq:Q (.str (aw e).shown) H):wpAny (model X.prog X.w) X.A (PySem.call (.builtin "repr") [u]) (EP X pins σ Q) X.xe s:=by
 obtain⟨a,rfl⟩:=ha
 cases ru
 obtain⟨dp,_,n,hn⟩:=cP xw.K R hd rv
 rw[Bool.and_eq_true]at hc
 obtain⟨h1,h2⟩:=kW hn
 obtain⟨as,r⟩:=L2.Dp.reads I _ _ _ dp rfl
 have hb:n≤60:=by
  unfold dh at hd
  split at hd
  ·split at hd
   ·rename_i m hm
    obtain⟨q1,q2⟩:=aa hd
    cases q2
    rw[hn]at hm;cases hm
    exact Nat.le_of_ble_eq_true q1
   ·cases hd
  ·cases hd
 refine repr_of_reads' r hc.1 (PyData.noDict_hsm (PyData.hasDict_of_canLay _ h1)) gd ?_ (fun b o e=>e) (fun h' u tk hk=>⟨L2.V.str (aw e).shown,H,I.kept (t':=tk) hk,⟨u,rfl⟩,hq⟩) (aK hc.2)
 have:=xw.un
 rw[h2]
 omega
theorem vO {d:D} {b:Bool} (hd:dh h d=some (.bl b)):d = .bl b:=by
 unfold dh at hd
 split at hd
 ·rename_i x g
  have hx:x = .bl b:=by
   split at hd
   ·obtain⟨_,q⟩:=aa hd;cases q;rfl
   ·cases hd
  subst hx
  have g:(bif aD d then some d else match (generalizing:=false) d with
   | .tup xs=>(bn (frz 43 h) xs).map .tup
   | .lst xs=>(bn (frz 43 h) xs).map .lst
   | .ref n=>match h.get n with
    | some (.lst xs)=>(bn (frz 43 h) xs).map .lst
    | some (.dic t kvs)=>(bn (fun p:D×D=>(frz 43 h p.2).map fun y=>(p.1,y)) kvs).map (.dic t)
    | some (.ins c fs)=>(bn (fun p:Str×D=>(frz 43 h p.2).map fun y=>(p.1,y)) fs).map (.ins c)
    | none=>none
   | _=>none)=some (.bl b):=g
  cases hp:aD d with
  | true=>rw[hp]at g;exact Option.some.inj g
  | false=>
   rw[hp]at g
   simp only[cond_false]at g
   split at g
   ·obtain⟨_,_,q⟩:=Option.map_eq_some_iff.mp g;cases q
   ·obtain⟨_,_,q⟩:=Option.map_eq_some_iff.mp g;cases q
   ·split at g
    ·obtain⟨_,_,q⟩:=Option.map_eq_some_iff.mp g;cases q
    ·obtain⟨_,_,q⟩:=Option.map_eq_some_iff.mp g;cases q
    ·obtain⟨_,_,q⟩:=Option.map_eq_some_iff.mp g;cases q
    ·cases g
   ·cases g
 ·cases hd
theorem i8:∀ {ps acc kvs:List (D×D)} {as ks:List (Key×L2.V)},dj false acc ps=some kvs→RKs W H S ρ acc as→RKs W H S ρ ps ks→RKs W H S ρ kvs (L2.mergeK as ks)
 | [],acc,kvs,as,_,e,ra,.nil=>by cases e;exact ra
 | (k,v) :: r,acc,kvs,as,ks,e,ra,rp=>by
  simp only[dj]at e
  obtain⟨hc,e⟩:=aa e
  obtain⟨x,u,q,rfl,hk,rv,rt⟩:=rp.kk
  have:=i8 (as:=putK as x u) e (ra.put hk rv) rt
  exact this
theorem kI:∀ {ps acc kvs:List (D×D)},dj false acc ps=some kvs→∀ p∈ps,aR false p.1=true
 | [],acc,kvs,e=>by simp
 | (k,v) :: r,acc,kvs,e=>by
  simp only[dj]at e
  obtain⟨hc,e⟩:=aa e
  rw[Bool.and_eq_true]at hc
  intro p hp
  rcases List.mem_cons.mp hp with rfl | hp
  ·exact hc.1
  ·exact kI e p hp
theorem nX (xw:XW W X):∀ {xs:List D} {vs:List L2.V} {ps:List (D×D)},dC xs=some ps→(∀ p∈ps,aR false p.1=true)→RVs W H S ρ xs vs →
  ∃ (as:List Addr) (ks:List (Key×L2.V)),vs=as.map L2.V.ref∧Paired (fun p kv=>SqT X.K H p [kV kv.1,kv.2]) as ks∧RKs W H S ρ ps ks
 | [],_,ps,e,_,.nil=>by cases e;exact⟨[],[],rfl,.nil,.nil⟩
 | d :: r,_,ps,e,hk,.cons a t=>by
  unfold dC at e
  split at e
  ·rename_i e1;cases e1
  ·rename_i k v r' e1
   cases e1
   split at e
   ·rename_i s es
    cases e
    obtain⟨as,ks,rfl,h1,h2⟩:=nX xw es (fun p hp=>hk p (List.mem_cons_of_mem _ hp)) t
    cases a with
    | tup ta ra=>
     cases ra with
     | cons rk rv=>cases rv with
      | cons rv rn=>
       cases rn
       obtain⟨kk,hkk,rfl⟩:=dq (hk _ (List.mem_cons_self ..)) rk
       exact⟨_ :: as,(kk,_) :: ks,rfl,.cons (ta.sq xw.K) h1,RKs.mk hkk rv h2⟩
   ·cases e
  ·cases e
theorem yK (xw:XW W X) (b:Bt) (gd:b = .repr→X.A.guards=some []) (z:Bool):CallR X (vj b) (rC W (cG b z)):=by
 rintro pins s σ H xs us Q I rx ⟨S,ρ,h,ds,r,h',Rd,R,hf,wq⟩
 unfold cG at hf
 split at hf
 ·obtain⟨hc,hf⟩:=aa hf
  obtain⟨v,rfl,rv⟩:=bt rfl Rd
  cases hf;cases rv
  exact L2.call_len_str pins s σ H _ us Q I rx ⟨_,rfl,aK hc,ad R wq (.int _)⟩
 ·split at hf
  ·rename_i ys hy
   obtain⟨v,rfl,rv⟩:=bt rfl Rd
   cases hf
   obtain⟨a,vs,rfl,r2,c⟩:=mZ hy R rv
   refine L2.call_len_seq pins s σ H _ us Q I rx ⟨a,vs,rfl,?_,by rw[← r2.len];exact ad R wq (.int _)⟩
   rcases c with c | c
   ·exact .inl (xw.sq c)
   ·exact .inr (c.sq xw.K)
  ·split at hf
   ·rename_i kvs hk
    cases hf
    obtain⟨v,rfl,rv⟩:=bt rfl Rd
    obtain⟨a,rfl,⟨z,_⟩ | ⟨_,xs,ea,ta⟩⟩:=eU hk R rv
    ·cases z
    obtain⟨u,rfl,ry⟩:=L2.vals1 rx
    obtain rfl:u = .ref a:=ry
    obtain⟨dd,hd,hl⟩:=c7 xw I ea ta
    rw[xw.P,xw.w]
    refine PySem.call_len_dictH (knd:=nestedKind W.P W.w) hd dd (by rw[sizeLine_eq]at hl;omega) ?_
    exact⟨.int ((xs.length:Nat):Int),H,I.tok _,⟨_,rfl⟩,by rw[← ta.len];exact ad R wq (.int _)⟩
   ·cases hf
 ·obtain⟨v,rfl,rv⟩:=bt rfl Rd
  cases hf;cases rv
  exact L2.call_abs pins s σ H _ us Q I rx ⟨_,rfl,ad R wq (.int _)⟩
 ·cases hf
  cases Rd with
  | cons a t=>cases t with
   | cons b t=>cases t;cases a;cases b;exact L2.call_max2 xw.calm pins s σ H _ us Q I rx ⟨_,_,rfl,ad R wq (.int _)⟩
 ·cases hf
  cases Rd with
  | cons a t=>cases t with
   | cons b t=>cases t;cases a;cases b;exact L2.call_min2 xw.calm pins s σ H _ us Q I rx ⟨_,_,rfl,ad R wq (.int _)⟩
 ·cases hf
 ·cases hf
 ·split at hf
  ·rename_i ys hy
   obtain⟨v,rfl,rv⟩:=bt rfl Rd
   split at hf
   ·rename_i l hi
    cases hf
    obtain⟨a,vs,rfl,e,r2⟩:=bG hy R rv
    have ev:=vS hi r2
    subst ev
    exact L2.cr_all xw.calm pins s σ H _ us Q I rx ⟨a,_,rfl,SqL.of e,by rw[← lA];exact ad R wq (.bl _)⟩
   ·cases hf
  ·cases hf
 ·cases hf
 ·cases hf
 ·cases hf
 ·split at hf
  ·rename_i ys hy
   obtain⟨v,rfl,rv⟩:=bt rfl Rd
   split at hf
   ·rename_i ps hp
    split at hf
    ·rename_i kvs hk
     obtain⟨rfl,rfl⟩:=bw hf
     obtain⟨a,vs,rfl,e,r2⟩:=bG hy R rv
     obtain⟨as,ks,rfl,h1,h2⟩:=nX xw hp (kI hk) r2
     refine L2.call_dictP xw.calm pins s σ H _ us Q I rx ⟨a,as,ks,rfl,SqL.of e,h1,fun p hp=>?_⟩
     exact lg (o:=.dic false kvs) R wq (fun H' S' ρ' s1 s2 rr=>.dicK ((i8 hk .nil h2).mono' s1 s2 rr)) hp
    ·split at hf
     ·rename_i kvs hk
      obtain⟨rfl,rfl⟩:=bw hf
      obtain⟨a,vs,rfl,e,r2⟩:=bG hy R rv
      obtain⟨u,rfl,ru⟩:=L2.vals1 rx
      cases ru
      exact nh xw I R e r2 hp hk fun p ks hp0 _ _ rt=>lg (o:=.dic true kvs) R wq (fun H' S' ρ' s1 s2 rr=>.dicT (rt.mono' s1 s2 rr)) hp0
     ·cases hf
   ·cases hf
  ·cases hf
 ·cases hf
 ·cases hf
 ·obtain⟨hc,hf⟩:=aa hf
  split at hf
  ·rename_i n hn
   cases hf
   obtain⟨v,rfl,rv⟩:=bt rfl Rd
   cases rv
   exact L2.call_int_str pins s σ H _ us Q I rx ⟨_,_,rfl,hn,Nat.le_of_ble_eq_true hc,ad R wq (.int _)⟩
  ·cases hf
 ·obtain⟨v,rfl,rv⟩:=bt rfl Rd
  cases hf;cases rv
  exact L2.call_int1 pins s σ H _ us Q I rx (.inl ⟨_,rfl,ad R wq (.int _)⟩)
 ·cases hf
 ·cases hf
 ·obtain⟨v,rfl,rv⟩:=bt rfl Rd
  cases hf;cases rv
  refine L2.call_int1 pins s σ H _ us Q I rx (.inr ⟨_,rfl,?_⟩)
  have:=ad R wq (.int _)
  rename_i k
  cases k<;>exact this
 ·obtain⟨hc,hf⟩:=aa hf
  cases hf
  obtain⟨v,rfl,rv⟩:=bt rfl Rd
  obtain⟨u,rfl,ru⟩:=L2.vals1 rx
  cases rv
  obtain⟨t,rfl⟩:=ru
  exact PySem.P.repr_of_str ⟨.str _,H,I.kept (t':=s.toks + 1) (fun b o e=>e),⟨_,rfl⟩,ad R wq (.str _)⟩ (aK hc)
 ·obtain⟨hc,hf⟩:=aa hf
  cases hf
  obtain⟨v,rfl,rv⟩:=bt rfl Rd
  obtain⟨u,rfl,ru⟩:=L2.vals1 rx
  cases rv
  obtain⟨t,rfl⟩:=ru
  exact PySem.P.repr_of_int (of_decide_eq_true hc) ⟨.str _,H,I.kept (t':=s.toks + 1) (fun b o e=>e),⟨_,rfl⟩,ad R wq (.str _)⟩
 ·cases hf
  obtain⟨v,rfl,rv⟩:=bt rfl Rd
  obtain⟨u,rfl,ru⟩:=L2.vals1 rx
  cases rv
  cases ru
  exact PySem.P.repr_of_none ⟨.str _,H,I.kept (t':=s.toks + 1) (fun b o e=>e),⟨_,rfl⟩,ad R wq (.str _)⟩
 ·rename_i d
  obtain⟨v,rfl,rv⟩:=bt rfl Rd
  obtain⟨u,rfl,ru⟩:=L2.vals1 rx
  split at hf
  ·rename_i xs hd
   obtain⟨hc,hf⟩:=aa hf
   cases hf
   exact i5 xw (gd rfl) I R hd rv ru (lx hd rv) hc (ad R wq (.str _))
  ·rename_i xs hd
   obtain⟨hc,hf⟩:=aa hf
   cases hf
   exact i5 xw (gd rfl) I R hd rv ru (lx hd rv) hc (ad R wq (.str _))
  ·rename_i b hd
   cases hf
   have:=vO hd
   subst this
   cases rv
   cases ru
   exact PySem.P.repr_of_bool ⟨.str _,H,I.kept (t':=s.toks + 1) (fun b o e=>e),⟨_,rfl⟩,ad R wq (.str _)⟩
  ·cases hf
 ·cases hf
 ·cases hf
def rM (W:Wd) (b:Bm):L2.V→List L2.V→HH→VK→Prop:=fun x xs H Q=>∃ S ρ h d ds r h',RV W H S ρ d x∧RVs W H S ρ ds xs∧RH W H S ρ h∧nT b d ds h=some (r,h')∧aN W S ρ h H r h' Q
def nR:Bm→String
 | .append=>"list.append" | .extend=>"list.extend" | .extendT=>"list.extend" | .pop=>"list.pop" | .get1=>"dict.get" | .get2=>"dict.get" | .setdefault=>"dict.setdefault" | .join=>"str.join" | .split=>"str.split" | .update=>"dict.update" | .popD=>"dict.pop" | .partition=>"str.partition" | .lstripC=>"str.lstrip" | .countL=>"list.count" | .countS=>"str.count" | .indexS=>"str.index" | .countT=>"list.count"
theorem qt {n a o o' ho' d v} {Q:VK} (R:RH W H S ρ h) (wq:aN W S ρ h H d (h.set n o') Q) (hn:h.get n=some o) (q:ρ n=some a) (ro:∀ H',(∀ b u,S b→H b=some u→H' b=some u)→RO W H' S ρ a o' ho')
  (rd:∀ H',RV W H' S ρ d v):Q v (upd H a ho'):=by
 obtain⟨g,R'⟩:=dc (o':=o') (ho':=ho') R hn q ro
 exact wq _ _ _ _ g R' (rd _)
theorem RKs.del {k:D} {kk:Key} (hk:KK k kk):∀ {kvs ks},RKs W H S ρ kvs ks→RKs W H S ρ (ke kvs k) (L2.dropK ks kk)
 | [],_,.nil=>.nil
 | (a,b) :: kvs,_,r=>by
  obtain⟨x,w,s,rfl,ha,rb,t⟩:=r.kk
  have e:=mn ha hk
  have ih:=RKs.del hk t
  unfold L2.dropK at ih ⊢
  by_cases q:x=kk
  ·rw[decide_eq_true q]at e
   simp only[ke,e,cond_true]
   rw[List.filter_cons_of_neg (by simp[q])]
   exact ih
  ·rw[decide_eq_false q]at e
   simp only[ke,e,cond_false]
   rw[List.filter_cons_of_pos (by simp[q])]
   exact .mk ha rb ih
theorem RVs.dropLast:∀ {xs:List D} {vs:List L2.V},RVs W H S ρ xs vs→RVs W H S ρ xs.dropLast vs.dropLast
 | _,_,.nil=>.nil
 | _,_,.cons a .nil=>.nil
 | _,_,.cons a (.cons b r)=>by
  have:=RVs.dropLast (.cons b r)
  exact .cons a this
theorem AZ (xw:XW W X) (b:Bm):MtR X (nR b) (rM W b):=by
 rintro pins s σ H x xs v us Q I rx rs ⟨S,ρ,h,d,ds,r,h',Rd,Rs,R,hf,wq⟩
 unfold nT at hf
 split at hf
 ·rename_i n e
  split at hf
  ·rename_i ys hn
   obtain⟨hc,hf⟩:=aa hf
   cases hf
   obtain⟨y,rfl,ry⟩:=bt rfl Rs
   cases Rd with
   | @ref n a q=>
    obtain⟨a',ho,q',ea,ns,ro⟩:=R.lv _ _ hn
    rw[q]at q';cases q'
    cases ro with
    | lst rv=>
     have hl:=aK hc
     refine L2.mt_append pins s σ H _ _ v us Q I rx rs ⟨a,_,y,rfl,rfl,ea,by rw[← rv.len];omega,?_⟩
     exact qt R wq hn q (fun H' st=>.lst ((rv.append (.cons ry .nil)).mono' (fun _ z=>z) st fun _ _ e=>e)) fun _=>.non
  ·cases hf
 ·cases hf
 ·cases hf
 ·rename_i d k
  split at hf
  ·rename_i t kvs hd
   obtain⟨hk,hf⟩:=aa hf
   cases hf
   obtain⟨y,rfl,ry⟩:=bt rfl Rs
   cases rs with
   | cons r1 r2=>
    cases r2
    exact wK xw I R hd hk Rd ry rx r1 fun z w' s' I' p1 p2=>⟨z,H,I',p2,ad R wq p1⟩
  ·cases hf
 ·rename_i n k e
  split at hf
  ·rename_i t kvs hn
   obtain⟨hc,hf⟩:=aa hf
   rw[Bool.and_eq_true]at hc
   have hl:kvs.length < sizeLine:=by
    have:=aK hc.2
    omega
   cases Rs with
   | cons q1 q2=>cases q2 with
    | cons q3 q4=>
     cases q4
     cases rs with
     | cons r1 r2=>cases r2 with
      | cons r3 r4=>
       cases r4
       cases t with
       | true=>
        refine uv xw I R hn hc.1 hl Rd q1 q3 rx r1 r3 (fun d z' w' s' el I' p1 p2=>?_) fun H' s' el g R' I'=>?_
        ·rw[el]at hf
         cases hf
         exact⟨z',H,I',p2,ad R wq p1⟩
        ·rw[el]at hf
         cases hf
         exact⟨_,H',I',r3,wq _ _ _ _ g R' (q3.go g R)⟩
       | false=>
        cases Rd with
        | @ref _ a q=>
         obtain⟨a',ho,q',ea,ns,ro⟩:=R.lv _ _ hn
         rw[q]at q';cases q'
         cases ro with
         | @dicK _ ks rk=>
          obtain⟨kk,hkk,rfl⟩:=dq hc.1 q1
          cases rx
          have lo:=rk.look hkk
          refine L2.d_setd I ea r1 r3 (by rw[← rk.len];exact hl) (fun v hv w' s4 I4 rw'=>?_) fun hnn w' s4 I4 rw'=>?_
          ·rw[hv]at lo
           generalize bf kvs k=o at lo hf
           cases lo with
           | some rv=>
            cases hf
            exact⟨v,H,I4,rw',ad R wq rv⟩
          ·rw[hnn]at lo
           generalize el:bf kvs k=o at lo hf
           cases lo with
           | none=>
            cases hf
            have rk':=rk.put hkk q3
            obtain⟨g,R'⟩:=dc (o':=.dic false (bz kvs k _)) (ho':=.dK (putK ks kk _)) R hn q fun H' st=>.dicK (rk'.mono' (fun _ z=>z) st fun _ _ e=>e)
            exact⟨_,_,I4,rw',wq _ _ _ _ g R' (q3.go g R)⟩
  ·cases hf
 ·cases hf
 ·rename_i kvs k e
  cases hf
  cases Rs with
  | cons q1 q2=>cases q2 with
   | cons q3 q4=>
    cases q4
    cases q1
    cases rs with
    | cons r1 r2=>cases r2 with
     | cons r3 r4=>
      cases r4
      cases Rd with
      | kd kd=>
       obtain⟨hs,es,n,hl,hk,hx⟩:=kd
       cases rx
       obtain⟨t,rfl⟩:=r1
       rw[← xw.K]at hl hx
       rw[← xw.w]at hk
       have hm:=PySem.W.mapOf_K (prog:=X.prog) (w:=X.w) I.kIn hl hk
       rcases hx k with ⟨h1,h2⟩ | ⟨d,v,u,h1,h2,h3,h4⟩
       ·refine call_meetsIn PySem.F.slot_dict_get hm.typeIs PySem.F.entry_dict_get (PySem.F.args_dict_get_3 _ _ _) (meets_dict_get_default (strKind X.prog X.w) _ (strKind_is X.prog X.w k t) hs _) ⟨_,hm,?_⟩
        rw[PySem.W.find_K hl h2]
        refine⟨_,H,I.tok _,r3,?_⟩
        rw[h1]at wq
        exact ad R wq q3
       ·refine call_meetsIn PySem.F.slot_dict_get hm.typeIs PySem.F.entry_dict_get (PySem.F.args_dict_get_3 _ _ _) (meets_dict_get_default (strKind X.prog X.w) _ (strKind_is X.prog X.w k t) hs _) ⟨_,hm,?_⟩
        rw[PySem.W.find_K hl h2]
        refine⟨_,H,I.tok _,h3,?_⟩
        rw[h1]at wq
        exact ad R wq (h4.rv _ _ _ _)
 ·rename_i d k e
  split at hf
  ·rename_i t kvs hd
   obtain⟨hk,hf⟩:=aa hf
   cases hf
   cases Rs with
   | cons q1 q2=>cases q2 with
    | cons q3 q4=>
     cases q4
     cases rs with
     | cons r1 r2=>cases r2 with
      | cons r3 r4=>
       cases r4
       exact wT xw I R hd hk Rd q1 q3 rx r1 r3 fun z w' s' I' p1 p2=>⟨z,H,I',p2,ad R wq p1⟩
  ·cases hf
 ·cases hf
 ·cases hf
 ·cases hf
 ·cases hf
 ·cases hf
 ·cases hf
 ·cases hf
 ·cases hf
 ·cases hf
 ·cases hf
 ·cases hf
 ·cases hf
end
open L2 (upd upd_same upd_ne ne_of ne_of_none Cx VK OpR SqL SqT Key kV Inv valV putK RelV HOk ObjOk IxR SlR TruR PSet PGet CallR MtR EP PE PT PA PW TE TT TA PO)
section
variable {W:Wd} {H H':HH} {S S':Addr→Prop} {ρ ρ':aq} {h h':Mm} {X:Cx} {pins:List (Addr×Obj)} {σ:L2.St} {s:Shared} {A:Around} {E:Value→Shared→Prop}
abbrev Fe:=Env→Mm→Option (D×Mm)
abbrev Fc:=Env→Mm→Option (Bool×Mm)
abbrev Fa:=Env→Mm→Option (List D×Mm)
theorem _root_.L2.PE.sub {e:Expr} {t t':TE} (p:PE X e t) (q:∀ σ H Q,t' σ H Q→t σ H Q):PE X e t':=⟨fun pins s σ H Q I hw=>p.run pins s σ H Q I (q σ H Q hw)⟩
theorem _root_.L2.PT.sub {e:Expr} {t t':TT} (p:PT X e t) (q:∀ σ H Q,t' σ H Q→t σ H Q):PT X e t':=⟨fun pins s σ H Q I hw=>p.run pins s σ H Q I (q σ H Q hw)⟩
theorem _root_.L2.PA.sub {es:List Expr} {t t':TA} (p:PA X es t) (q:∀ σ H Q,t' σ H Q→t σ H Q):PA X es t':=⟨fun pos pins s σ H Q I hw=>p.run pos pins s σ H Q I (q σ H Q hw)⟩
theorem aN.pre {d h1 h' Q H1 S1 ρ1} (g:Go S ρ h H S1 ρ1 h1 H1) (w:aN W S ρ h H d h' Q):aN W S1 ρ1 h1 H1 d h' Q:=fun S' ρ' H' v g' R' r'=>w S' ρ' H' v (g.trans g') R' r'
theorem uh {i:Nat} {x:Str} {pos:Pos} (hN:X.N[i]? = some x) (hv:L2.Vis X.env.scope x) (hd:(x == ("__debug__":Str))=false) (hcd:(x == ("__classdict__":Str))=false):
  PE X (.Name x pos) (tE W fun env h=>match av env i with | some d=>some (d,h) | none=>none):=by
 refine (L2.pe_var hN hv hd hcd).sub ?_
 rintro σ H Q ⟨env,S,ρ,h,d,h',re,R,hf,wq⟩
 try dsimp only at hf
 cases e:av env i with
 | none=>rw[e]at hf;cases hf
 | some x=>
  rw[e]at hf;cases hf
  obtain⟨v,e1,r⟩:=re.at_ i _ e
  exact⟨v,e1,ad R wq r⟩
theorem fK {e:Expr} {v:L2.V} {d:D} (p:PE X e (L2.tC v)) (r:∀ H S ρ,RV W H S ρ d v):PE X e (tE W fun _ h=>some (d,h)):=by
 refine p.sub ?_
 rintro σ H Q ⟨env,S,ρ,h,d',h',re,R,hf,wq⟩
 try dsimp only at hf
 cases hf
 exact ad R wq (r _ _ _)
theorem tK {a b:Expr} {pos:Pos} {fa fb:Fe} {o:Op} {z:Bool} (xw:XW W X) (ha:PE X a (tE W fa)) (hb:PE X b (tE W fb)):
  PE X (.BinOp a (iB o) b pos) (tE W fun env h=>match fa env h with | some (x,h1)=>(match fb env h1 with | some (y,h2)=>cV o z x y h2 | none=>none) | none=>none):=by
 refine (L2.pe_op (zw xw o z) ha hb).sub ?_
 rintro σ H Q ⟨env,S,ρ,h,d,h',re,R,hf,wq⟩
 try dsimp only at hf
 split at hf
 rotate_left
 ·cases hf
 rename_i x h1 ea
 split at hf
 rotate_left
 ·cases hf
 rename_i y h2 eb
 refine⟨env,S,ρ,h,x,h1,re,R,ea,fun S1 ρ1 H1 v1 g1 R1 r1=>?_⟩
 refine⟨env,S1,ρ1,h1,y,h2,re.go g1 R,R1,eb,fun S2 ρ2 H2 v2 g2 R2 r2=>?_⟩
 exact⟨S2,ρ2,h2,x,y,d,h',r1.go g2 R1,r2,R2,hf,aN.pre (g1.trans g2) wq⟩
theorem tY {a:Expr} {pos:Pos} {fa:Fe} (ha:PE X a (tE W fa)):
  PE X (.UnaryOp .USub a pos) (tE W fun env h=>match fa env h with | some (.int i,h1)=>some (.int (-i),h1) | _=>none):=by
 refine (L2.pe_un L2.un_neg ha).sub ?_
 rintro σ H Q ⟨env,S,ρ,h,d,h',re,R,hf,wq⟩
 try dsimp only at hf
 split at hf
 ·rename_i i h1 ea
  cases hf
  refine⟨env,S,ρ,h,_,_,re,R,ea,fun S1 ρ1 H1 v1 g1 R1 r1=>?_⟩
  cases r1
  exact⟨_,rfl,wq _ _ _ _ g1 R1 (.int _)⟩
 ·cases hf
theorem n0 {fa fb:Fe} {o:Cm} {σ:L2.St} {H:HH} {R0:Bool→HH→Prop} {Q:VK} (hQ:∀ k H,R0 k H→Q (.bl k) H)
  (t:∃ env S ρ h k h',RE W H S ρ env σ∧RH W H S ρ h∧(match fa env h with | some (x,h1)=>(match fb env h1 with | some (y,h2)=>(match cmpD o x y h2 with | some k=>some (k,h2) | none=>none) | none=>none) | none=>none)=some (k,h') ∧
   ∀ S' ρ' H',Go S ρ h H S' ρ' h' H'→RH W H' S' ρ' h'→R0 k H'):L2.tOp (rQ W (cmpD o)) (tE W fa) (tE W fb) σ H Q:=by
 obtain⟨env,S,ρ,h,k,h',re,R,hf,wq⟩:=t
 try dsimp only at hf
 split at hf
 rotate_left
 ·cases hf
 rename_i x h1 ea
 split at hf
 rotate_left
 ·cases hf
 rename_i y h2 eb
 refine⟨env,S,ρ,h,x,h1,re,R,ea,fun S1 ρ1 H1 v1 g1 R1 r1=>?_⟩
 refine⟨env,S1,ρ1,h1,y,h2,re.go g1 R,R1,eb,fun S2 ρ2 H2 v2 g2 R2 r2=>?_⟩
 cases ec:cmpD o x y h2 with
 | none=>rw[ec]at hf;cases hf
 | some k'=>
  rw[ec]at hf;cases hf
  exact⟨S2,ρ2,_,x,y,_,r1.go g2 R1,r2,R2,ec,hQ _ _ (wq _ _ _ (g1.trans g2) R2)⟩
theorem tM {a b:Expr} {pos:Pos} {fa fb:Fe} {o:Cm} (xw:XW W X) (ha:PE X a (tE W fa)) (hb:PE X b (tE W fb)) (hm:behindInMarks (cm o) b=false):
  PE X (.Compare a [cm o] [b] pos) (tE W fun env h=>match fa env h with | some (x,h1)=>(match fb env h1 with | some (y,h2)=>(match cmpD o x y h2 with | some k=>some (.bl k,h2) | none=>none) | none=>none) | none=>none):=by
 refine (L2.pe_cmpR (iR xw o) ha hb hm).sub ?_
 rintro σ H Q ⟨env,S,ρ,h,d,h',re,R,hf,wq⟩
 try dsimp only at hf
 split at hf
 rotate_left
 ·cases hf
 rename_i x h1 ea
 split at hf
 rotate_left
 ·cases hf
 rename_i y h2 eb
 cases ec:cmpD o x y h2 with
 | none=>rw[ec]at hf;cases hf
 | some k=>
  rw[ec]at hf;cases hf
  exact n0 (R0:=fun k H=>Q (.bl k) H) (fun _ _ q=>q) ⟨env,S,ρ,h,_,_,re,R,by simp[ea,eb,ec],fun S' ρ' H' g R'=>wq _ _ _ _ g R' (.bl _)⟩
theorem pL {a b:Expr} {pos:Pos} {fa fb:Fe} {o:Cm} (xw:XW W X) (ha:PE X a (tE W fa)) (hb:PE X b (tE W fb)) (hm:behindInMarks (cm o) b=false):
  PT X (.Compare a [cm o] [b] pos) (tC W fun env h=>match (match fa env h with | some (x,h1)=>(match fb env h1 with | some (y,h2)=>(match cmpD o x y h2 with | some k=>some (D.bl k,h2) | none=>none) | none=>none) | none=>none) with
   | some (d,h1)=>(match cu h1 d with | some k=>some (k,h1) | none=>none) | none=>none):=by
 refine (L2.pt_cmpR (iR xw o) ha hb hm).sub ?_
 rintro σ H Q ⟨env,S,ρ,h,b',h',re,R,hf,wq⟩
 try dsimp only at hf
 split at hf
 rotate_left
 ·cases hf
 rename_i d h0 e0
 split at e0
 rotate_left
 ·cases e0
 rename_i x h1 ea
 split at e0
 rotate_left
 ·cases e0
 rename_i y h2 eb
 cases ec:cmpD o x y h2 with
 | none=>rw[ec]at e0;cases e0
 | some k=>
  rw[ec]at e0;cases e0
  cases hf
  exact n0 (R0:=fun k H=>Q k H) (fun _ _ q=>⟨_,rfl,q⟩) ⟨env,S,ρ,h,_,_,re,R,by simp[ea,eb,ec],wq⟩
theorem oj {fa fb fc:Fe} {o o':Cm} {σ:L2.St} {H:HH} {R0:Bool→HH→Prop} {Q:VK} (hQ:∀ k H,R0 k H→Q (.bl k) H)
  (t:∃ env S ρ h k h',RE W H S ρ env σ∧RH W H S ρ h∧(match fa env h with
  | some (x,h1)=>(match fb env h1 with
   | some (y,h2)=>(match cmpD o x y h2 with
    | some true=>(match fc env h2 with
     | some (w,h3)=>(match cmpD o' y w h3 with
      | some k=>some (k,h3)
      | none=>none)
     | none=>none)
    | some false=>some (false,h2)
    | none=>none)
   | none=>none)
  | none=>none)=some (k,h') ∧
   ∀ S' ρ' H',Go S ρ h H S' ρ' h' H'→RH W H' S' ρ' h'→R0 k H'):L2.tChain (rQ W (cmpD o)) (rQ W (cmpD o')) (tE W fa) (tE W fb) (tE W fc) σ H Q:=by
 obtain⟨env,S,ρ,h,k,h',re,R,hf,wq⟩:=t
 try dsimp only at hf
 split at hf
 rotate_left
 ·cases hf
 rename_i x h1 ea
 split at hf
 rotate_left
 ·cases hf
 rename_i y h2 eb
 refine⟨env,S,ρ,h,x,h1,re,R,ea,fun S1 ρ1 H1 v1 g1 R1 r1=>?_⟩
 refine⟨env,S1,ρ1,h1,y,h2,re.go g1 R,R1,eb,fun S2 ρ2 H2 v2 g2 R2 r2=>?_⟩
 have g:=g1.trans g2
 split at hf
 ·rename_i ec
  split at hf
  rotate_left
  ·cases hf
  rename_i w h3 ew
  refine⟨S2,ρ2,h2,x,y,true,r1.go g2 R1,r2,R2,ec,true,rfl,?_⟩
  rw[if_pos rfl]
  refine⟨env,S2,ρ2,h2,w,h3,re.go g R,R2,ew,fun S3 ρ3 H3 v3 g3 R3 r3=>?_⟩
  cases ec':cmpD o' y w h3 with
  | none=>rw[ec']at hf;cases hf
  | some k'=>
   rw[ec']at hf;cases hf
   exact⟨S3,ρ3,_,y,w,k,r2.go g3 R2,r3,R3,ec',hQ _ _ (wq _ _ _ (g.trans g3) R3)⟩
 ·rename_i ec
  cases hf
  refine⟨S2,ρ2,_,x,y,false,r1.go g2 R1,r2,R2,ec,false,rfl,?_⟩
  rw[if_neg Bool.false_ne_true]
  exact hQ _ _ (wq _ _ _ g R2)
 ·cases hf
theorem sM {a b c:Expr} {pos:Pos} {fa fb fc:Fe} {o o':Cm} (xw:XW W X) (ha:PE X a (tE W fa)) (hb:PE X b (tE W fb)) (hc:PE X c (tE W fc)) (hm:lastMarks [cm o,cm o'] [b,c]=false):
  PE X (.Compare a [cm o,cm o'] [b,c] pos) (tE W fun env h=>match fa env h with
  | some (x,h1)=>(match fb env h1 with
   | some (y,h2)=>(match cmpD o x y h2 with
    | some true=>(match fc env h2 with
     | some (w,h3)=>(match cmpD o' y w h3 with
      | some k=>some (.bl k,h3)
      | none=>none)
     | none=>none)
    | some false=>some (.bl false,h2)
    | none=>none)
   | none=>none)
  | none=>none):=by
 refine (L2.pe_chain (iR xw o) (iR xw o') ha hb hc hm).sub ?_
 rintro σ H Q ⟨env,S,ρ,h,d,h',re,R,hf,wq⟩
 try dsimp only at hf
 split at hf
 rotate_left
 ·cases hf
 rename_i x h1 ea
 split at hf
 rotate_left
 ·cases hf
 rename_i y h2 eb
 refine oj (R0:=fun k H=>Q (.bl k) H) (fun _ _ q=>q) ?_
 split at hf
 ·rename_i ec
  split at hf
  rotate_left
  ·cases hf
  rename_i w h3 ew
  cases ec':cmpD o' y w h3 with
  | none=>rw[ec']at hf;cases hf
  | some k'=>
   rw[ec']at hf;cases hf
   exact⟨env,S,ρ,h,k',_,re,R,by simp[ea,eb,ec,ew,ec'],fun S' ρ' H' g R'=>wq _ _ _ _ g R' (.bl _)⟩
 ·rename_i ec
  cases hf
  exact⟨env,S,ρ,h,false,_,re,R,by simp[ea,eb,ec],fun S' ρ' H' g R'=>wq _ _ _ _ g R' (.bl _)⟩
 ·cases hf
theorem pH {a b c:Expr} {pos:Pos} {fa fb fc:Fe} {o o':Cm} (xw:XW W X) (ha:PE X a (tE W fa)) (hb:PE X b (tE W fb)) (hc:PE X c (tE W fc)) (hm:lastMarks [cm o,cm o'] [b,c]=false):
  PT X (.Compare a [cm o,cm o'] [b,c] pos) (tC W fun env h=>match (match fa env h with
  | some (x,h1)=>(match fb env h1 with
   | some (y,h2)=>(match cmpD o x y h2 with
    | some true=>(match fc env h2 with
     | some (w,h3)=>(match cmpD o' y w h3 with
      | some k=>some (D.bl k,h3)
      | none=>none)
     | none=>none)
    | some false=>some (.bl false,h2)
    | none=>none)
   | none=>none)
  | none=>none) with | some (d,h1)=>(match cu h1 d with | some k=>some (k,h1) | none=>none) | none=>none):=by
 refine (L2.pt_chain (iR xw o) (iR xw o') ha hb hc hm).sub ?_
 rintro σ H Q ⟨env,S,ρ,h,b',h',re,R,hf,wq⟩
 try dsimp only at hf
 split at hf
 rotate_left
 ·cases hf
 rename_i d h0 e0
 split at e0
 rotate_left
 ·cases e0
 rename_i x h1 ea
 split at e0
 rotate_left
 ·cases e0
 rename_i y h2 eb
 refine oj (R0:=fun k H=>Q k H) (fun _ _ q=>⟨_,rfl,q⟩) ?_
 split at e0
 ·rename_i ec
  split at e0
  rotate_left
  ·cases e0
  rename_i w h3 ew
  cases ec':cmpD o' y w h3 with
  | none=>rw[ec']at e0;cases e0
  | some k'=>
   rw[ec']at e0;cases e0;cases hf
   exact⟨env,S,ρ,h,_,_,re,R,by simp[ea,eb,ec,ew,ec'],wq⟩
 ·rename_i ec
  cases e0;cases hf
  exact⟨env,S,ρ,h,false,_,re,R,by simp[ea,eb,ec],wq⟩
 ·cases e0
theorem t9 {a:Expr} {fa:Fe} (xw:XW W X) (ha:PE X a (tE W fa)) (hp:∀ whole,isTrue a X.env whole=(do let v ← whole;standAt a.pos;holding [v] (truthy v))):
  PT X a (tC W fun env h=>match fa env h with | some (d,h1)=>(match cu h1 d with | some k=>some (k,h1) | none=>none) | none=>none):=by
 refine (L2.pt_truth ha hp).sub ?_
 rintro σ H Q ⟨env,S,ρ,h,b',h',re,R,hf,wq⟩
 try dsimp only at hf
 split at hf
 rotate_left
 ·cases hf
 rename_i d h1 ea
 refine⟨env,S,ρ,h,d,h1,re,R,ea,fun S1 ρ1 H1 v1 g1 R1 r1=>?_⟩
 cases et:cu h1 d with
 | none=>rw[et]at hf;cases hf
 | some k=>
  rw[et]at hf;cases hf
  exact⟨_,i4 xw R1 r1 et,wq _ _ _ g1 R1⟩
theorem ui {a:Expr} {pos:Pos} {fa:Fc} (ha:PT X a (tC W fa)):PT X (.UnaryOp .Not a pos) (tC W fun env h=>match fa env h with | some (k,h1)=>some (!k,h1) | none=>none):=by
 refine (L2.pt_not ha).sub ?_
 rintro σ H Q ⟨env,S,ρ,h,b',h',re,R,hf,wq⟩
 try dsimp only at hf
 split at hf
 rotate_left
 ·cases hf
 rename_i k h1 ea
 cases hf
 exact⟨env,S,ρ,h,k,_,re,R,ea,fun S1 ρ1 H1 g1 R1=>wq _ _ _ g1 R1⟩
theorem tG {c a b:Expr} {pos:Pos} {fc:Fc} {fa fb:Fe} (hc:PT X c (tC W fc)) (ha:PE X a (tE W fa)) (hb:PE X b (tE W fb)):
  PE X (.IfExp c a b pos) (tE W fun env h=>match fc env h with | some (true,h1)=>fa env h1 | some (false,h1)=>fb env h1 | none=>none):=by
 refine (L2.pe_ifExp hc ha hb).sub ?_
 rintro σ H Q ⟨env,S,ρ,h,d,h',re,R,hf,wq⟩
 try dsimp only at hf
 split at hf
 ·rename_i h1 ec
  refine⟨env,S,ρ,h,true,h1,re,R,ec,fun S1 ρ1 H1 g1 R1=>?_⟩
  show tE W fa σ H1 Q
  exact⟨env,S1,ρ1,h1,d,h',re.go g1 R,R1,hf,aN.pre g1 wq⟩
 ·rename_i h1 ec
  refine⟨env,S,ρ,h,false,h1,re,R,ec,fun S1 ρ1 H1 g1 R1=>?_⟩
  show tE W fb σ H1 Q
  exact⟨env,S1,ρ1,h1,d,h',re.go g1 R,R1,hf,aN.pre g1 wq⟩
 ·cases hf
theorem uo:PA X [] (bK W fun _ h=>some ([],h)):=by
 refine L2.pa_nil.sub ?_
 rintro σ H Q ⟨env,S,ρ,h,ds,h',re,R,hf,wq⟩
 try dsimp only at hf
 cases hf
 exact wq _ _ _ _ .refl R .nil
theorem pX {e:Expr} {es:List Expr} {fe:Fe} {fs:Fa} (he:PE X e (tE W fe)) (hs:PA X es (bK W fs)) (hst:starEach (e :: es) X.env=(false,eval e X.env) :: starEach es X.env):
  PA X (e :: es) (bK W fun env h=>match fe env h with | some (d,h1)=>(match fs env h1 with | some (ds,h2)=>some (d :: ds,h2) | none=>none) | none=>none):=by
 refine (L2.pa_cons he hs hst).sub ?_
 rintro σ H Q ⟨env,S,ρ,h,ds,h',re,R,hf,wq⟩
 try dsimp only at hf
 split at hf
 rotate_left
 ·cases hf
 rename_i d h1 ea
 split at hf
 rotate_left
 ·cases hf
 rename_i ds' h2 eb
 cases hf
 refine⟨env,S,ρ,h,d,h1,re,R,ea,fun S1 ρ1 H1 v1 g1 R1 r1=>?_⟩
 refine⟨env,S1,ρ1,h1,ds',_,re.go g1 R,R1,eb,fun S2 ρ2 H2 v2 g2 R2 r2=>?_⟩
 exact wq _ _ _ _ (g1.trans g2) R2 (.cons (r1.go g2 R1) r2)
theorem sG {es:List Expr} {k:Nat} {pos:Pos} {fs:Fa} (hs:PA X es (bK W fs)):PE X (.Tuple es k pos) (tE W fun env h=>match fs env h with | some (xs,h1)=>bif Nat.ble xs.length most then some (.tup xs,h1) else none | none=>none):=by
 refine (L2.pe_tup hs).sub ?_
 rintro σ H Q ⟨env,S,ρ,h,d,h',re,R,hf,wq⟩
 try dsimp only at hf
 split at hf
 rotate_left
 ·cases hf
 rename_i xs h1 ea
 obtain⟨hc,hf⟩:=aa hf
 cases hf
 refine⟨env,S,ρ,h,xs,_,re,R,ea,fun S1 ρ1 H1 v1 g1 R1 r1=>⟨by rw[← r1.len];exact aK hc,fun p hp=>cZ R1 (aN.pre g1 wq) r1 hp⟩⟩
theorem sX {es:List Expr} {pos:Pos} {fs:Fa} {z:Bool} (hs:PA X es (bK W fs)):PE X (.List es pos) (tE W fun env h=>match fs env h with | some (xs,h1)=>bif Nat.ble xs.length most then some (bj z (.lst xs) h1) else none | none=>none):=by
 refine (L2.pe_lst hs).sub ?_
 rintro σ H Q ⟨env,S,ρ,h,d,h',re,R,hf,wq⟩
 try dsimp only at hf
 split at hf
 rotate_left
 ·cases hf
 rename_i xs h1 ea
 obtain⟨hc,hf⟩:=aa hf
 obtain⟨rfl,rfl⟩:=bw hf
 refine⟨env,S,ρ,h,xs,h1,re,R,ea,fun S1 ρ1 H1 v1 g1 R1 r1=>⟨by rw[← r1.len];exact aK hc,fun p hp=>dA R1 (aN.pre g1 wq) r1 hp⟩⟩
theorem dD:∀ {fs:List (Str×D)} {gs:List (Str×L2.V)} {f:Str},RFs W H S ρ fs gs→(aY fs f=none∧gs.lookup f=none)∨∃ d v,aY fs f=some d∧gs.lookup f=some v∧RV W H S ρ d v
 | _,_,f,.nil=>.inl ⟨rfl,rfl⟩
 | _,_,f,.cons (x:=x) a t=>by
  by_cases e:x=f
  ·subst e
   exact .inr ⟨_,_,by simp[aY],by simp[List.lookup],a⟩
  ·have e':(f == x)=false:=by simpa using Ne.symm e
   rcases dD (f:=f) t with ⟨h1,h2⟩ | ⟨d,v,h1,h2,h3⟩
   ·exact .inl ⟨by simp[aY,e,h1],by simp[List.lookup,e',h2]⟩
   ·exact .inr ⟨d,v,by simp[aY,e,h1],by simp[List.lookup,e',h2],h3⟩
theorem iP {f:Str} {d:D} {v:L2.V} (r:RV W H S ρ d v):∀ {fs:List (Str×D)} {gs:List (Str×L2.V)},RFs W H S ρ fs gs→RFs W H S ρ (putF f d fs) (L2.putF f v gs)
 | _,_,.nil=>.cons r .nil
 | _,_,.cons (x:=x) a t=>by
  by_cases e:x=f
  ·subst e
   simp only[putF,L2.putF,if_true]
   exact .cons r t
  ·simp only[putF,L2.putF,if_neg e]
   exact .cons a (iP r t)
theorem jH:∀ {fs:List (Str×D)} {gs:List (Str×L2.V)},RFs W H S ρ fs gs→fs.length=gs.length
 | _,_,.nil=>rfl
 | _,_,.cons _ t=>by simp[jH t]
theorem uq {o:Expr} {f:Str} {pos:Pos} {fo:Fe} {P:Prg} (xw:XW W X) (ho:PE X o (tE W fo)) (hb:attributeBase o f X.env (eval o X.env)=eval o X.env)
  (hcl:∀ c k,P.cls c=some k→L2.Cls W.K (W.cA c)∧∀ g∈k.flds,L2.NoAttr W.K (W.cA c) g):
  PE X (.Attribute o f pos) (tE W fun env h=>match fo env h with
  | some (x,h1)=>(match aO h1 x with
   | some (c,fs)=>(match P.cls c with
    | some k=>bif k.flds.contains f then (match aY fs f with
     | some d=>some (d,h1)
     | none=>none) else none
    | none=>none)
   | none=>none)
  | none=>none):=by
 refine (L2.pe_fld ho hb).sub ?_
 rintro σ H Q ⟨env,S,ρ,h,d,h',re,R,hf,wq⟩
 try dsimp only at hf
 split at hf
 rotate_left
 ·cases hf
 rename_i x h1 ea
 refine⟨env,S,ρ,h,x,h1,re,R,ea,fun S1 ρ1 H1 v1 g1 R1 r1=>?_⟩
 split at hf
 ·rename_i c fs ei
  split at hf
  ·rename_i k ek
   obtain⟨hc,hf⟩:=aa hf
   obtain⟨a,dx,gs,rfl,e,rf⟩:=fB ei R1 r1
   obtain⟨hC,hN⟩:=hcl c k ek
   rcases dD (f:=f) rf with ⟨q1,_⟩ | ⟨d',v,q1,q2,q3⟩
   ·rw[q1]at hf;cases hf
   ·rw[q1]at hf;cases hf
    refine⟨a,_,dx,gs,v,rfl,e,by rw[xw.K];exact hC,by rw[xw.K];exact hN f (by simpa using hc),q2,wq _ _ _ _ g1 R1 q3⟩
  ·cases hf
 ·cases hf
theorem ud {o i:Expr} {pos:Pos} {fo fi:Fe} (xw:XW W X) (ho:PE X o (tE W fo)) (hi:PE X i (tE W fi)) (hs:L2.PlainIx i):
  PE X (.Subscript o i pos) (tE W fun env h=>match fo env h with | some (x,h1)=>(match fi env h1 with | some (y,h2)=>(match br x y h2 with | some d=>some (d,h2) | none=>none) | none=>none) | none=>none):=by
 refine (L2.pe_ix (y9 xw) ho hi hs).sub ?_
 rintro σ H Q ⟨env,S,ρ,h,d,h',re,R,hf,wq⟩
 try dsimp only at hf
 split at hf
 rotate_left
 ·cases hf
 rename_i x h1 ea
 split at hf
 rotate_left
 ·cases hf
 rename_i y h2 eb
 refine⟨env,S,ρ,h,x,h1,re,R,ea,fun S1 ρ1 H1 v1 g1 R1 r1=>?_⟩
 refine⟨env,S1,ρ1,h1,y,h2,re.go g1 R,R1,eb,fun S2 ρ2 H2 v2 g2 R2 r2=>?_⟩
 cases ec:br x y h2 with
 | none=>rw[ec]at hf;cases hf
 | some k=>
  rw[ec]at hf;cases hf
  exact⟨S2,ρ2,_,x,y,d,r1.go g2 R1,r2,R2,ec,fun v r=>wq _ _ _ _ (g1.trans g2) R2 r⟩
abbrev Fp:=Env→Mm→Option (Option Int×Mm)
def tP (W:Wd) (f:Fp):L2.TO:=fun σ H Q=>∃ env S ρ h b h',RE W H S ρ env σ∧RH W H S ρ h∧f env h=some (b,h')∧∀ S' ρ' H',Go S ρ h H S' ρ' h' H'→RH W H' S' ρ' h'→Q b H'
theorem _root_.L2.PO.sub {e:Option Expr} {t t':L2.TO} (p:PO X e t) (q:∀ σ H Q,t' σ H Q→t σ H Q):PO X e t':=by
 cases p with
 | mk run=>exact⟨fun pins s σ H Q I hw=>run pins s σ H Q I (q σ H Q hw)⟩
theorem uC:PO X none (tP W fun _ h=>some (none,h)):=by
 refine L2.PO.sub L2.po_none ?_
 rintro σ H Q ⟨env,S,ρ,h,b,h',re,R,hf,wq⟩
 try dsimp only at hf
 cases hf
 exact wq _ _ _ .refl R
theorem wd {e:Expr} {fe:Fe} (he:PE X e (tE W fe)):PO X (some e) (tP W fun env h=>match fe env h with | some (.int i,h1)=>some (some i,h1) | _=>none):=by
 refine L2.PO.sub (L2.po_some he) ?_
 rintro σ H Q ⟨env,S,ρ,h,b,h',re,R,hf,wq⟩
 try dsimp only at hf
 split at hf
 ·rename_i i h1 ea
  cases hf
  refine⟨env,S,ρ,h,_,_,re,R,ea,fun S1 ρ1 H1 v1 g1 R1 r1=>?_⟩
  cases r1
  exact⟨_,rfl,wq _ _ _ g1 R1⟩
 ·cases hf
theorem ve {o:Expr} {lo hi:Option Expr} {pos p2:Pos} {fo:Fe} {fl fh:Fp} {z:Bool} (xw:XW W X) (ho:PE X o (tE W fo)) (hl:PO X lo (tP W fl)) (hh:PO X hi (tP W fh)):
  PE X (.Subscript o (.Slice lo hi none p2) pos) (tE W fun env h=>match fo env h with | some (x,h1)=>(match fl env h1 with | some (l,h2)=>(match fh env h2 with | some (u,h3)=>rF z x l u h3 | none=>none) | none=>none) | none=>none):=by
 refine (L2.pe_slice (zG xw z) ho hl hh).sub ?_
 rintro σ H Q ⟨env,S,ρ,h,d,h',re,R,hf,wq⟩
 try dsimp only at hf
 split at hf
 rotate_left
 ·cases hf
 rename_i x h1 ea
 split at hf
 rotate_left
 ·cases hf
 rename_i l h2 eb
 split at hf
 rotate_left
 ·cases hf
 rename_i u h3 ec
 refine⟨env,S,ρ,h,x,h1,re,R,ea,fun S1 ρ1 H1 v1 g1 R1 r1=>?_⟩
 refine⟨env,S1,ρ1,h1,l,h2,re.go g1 R,R1,eb,fun S2 ρ2 H2 g2 R2=>?_⟩
 refine⟨env,S2,ρ2,h2,u,h3,re.go (g1.trans g2) R,R2,ec,fun S3 ρ3 H3 g3 R3=>?_⟩
 exact⟨S3,ρ3,h3,x,d,h',r1.go (g2.trans g3) R1,R3,hf,aN.pre ((g1.trans g2).trans g3) wq⟩
end
section
variable {W:Wd} {H H':HH} {S S' S1:Addr→Prop} {ρ ρ' ρ1:aq} {h h':Mm}
mutual
theorem RV.pure (s1:∀ a,S a→S1 a):∀ {d v},RV W H S ρ d v→aD d=true→RV W H S1 ρ1 d v
 | _,_,.non,_=>.non
 | _,_,.bl b,_=>.bl b
 | _,_,.int i,_=>.int i
 | _,_,.str x,_=>.str x
 | _,_,.tup t r,p=>.tup (t.mono s1 fun _ _ _ e=>e) (RVs.pure s1 r p)
 | _,_,.lst s e r,p=>.lst (s1 _ s) e (RVs.pure s1 r p)
 | _,_,.dicK s e r,p=>.dicK (s1 _ s) e (RKs.pure s1 r p)
 | _,_,.dicT s e r,p=>.dicT (s1 _ s) e (RTs.pure s1 r p)
 | _,_,.ins s e r,p=>.ins (s1 _ s) e (RFs.pure s1 r p)
 | _,_,.ref _,p=>by cases p
 | _,_,.frl t r,p=>.frl (t.mono s1 fun _ _ _ e=>e) (RVs.pure s1 r p)
 | _,_,.kd k,_=>.kd k
 | _,_,.fn f,_=>.fn f
theorem RVs.pure (s1:∀ a,S a→S1 a):∀ {d v},RVs W H S ρ d v→bI d=true→RVs W H S1 ρ1 d v
 | _,_,.nil,_=>.nil
 | _,_,.cons a r,p=>by
  simp only[bI,Bool.and_eq_true]at p
  exact .cons (RV.pure s1 a p.1) (RVs.pure s1 r p.2)
theorem RKs.pure (s1:∀ a,S a→S1 a):∀ {d v},RKs W H S ρ d v→eJ d=true→RKs W H S1 ρ1 d v
 | _,_,.nil,_=>.nil
 | _,_,.int a r,p=>by
  simp only[eJ,Bool.and_eq_true]at p
  exact .int (RV.pure s1 a p.1.2) (RKs.pure s1 r p.2)
 | _,_,.str a r,p=>by
  simp only[eJ,Bool.and_eq_true]at p
  exact .str (RV.pure s1 a p.1.2) (RKs.pure s1 r p.2)
theorem RTs.pure (s1:∀ a,S a→S1 a):∀ {d v},RTs W H S ρ d v→eJ d=true→RTs W H S1 ρ1 d v
 | _,_,.nil,_=>.nil
 | _,_,.cons n hd k a u r,p=>by
  simp only[eJ,Bool.and_eq_true]at p
  exact .cons n hd (RV.pure s1 k p.1.1) (RV.pure s1 a p.1.2) u (RTs.pure s1 r p.2)
theorem RFs.pure (s1:∀ a,S a→S1 a):∀ {d v},RFs W H S ρ d v→dR d=true→RFs W H S1 ρ1 d v
 | _,_,.nil,_=>.nil
 | _,_,.cons a r,p=>by
  simp only[dR,Bool.and_eq_true]at p
  exact .cons (RV.pure s1 a p.1) (RFs.pure s1 r p.2)
end
theorem NK.pure:∀ {d k},NK d k→aD d=true
 | _,_,.non=>rfl
 | _,_,.int _=>rfl
 | _,_,.str _=>rfl
 | _,_,.tnil=>rfl
 | _,_,.tcons a r=>by
  have h1:=NK.pure a
  have h2:=NK.pure r
  simp only[aD,bI]at h2 ⊢
  rw[h1,h2];rfl
theorem RO.pure {a o ho} (s1:∀ a,S a→S1 a) (r:RO W H S ρ a o ho) (p:aD o.d=true):RO W H S1 ρ1 a o ho:=by
 cases r with
 | lst r=>exact .lst (r.pure s1 p)
 | dicK r=>exact .dicK (r.pure s1 p)
 | dicT r=>exact .dicT (r.pure s1 p)
 | ins r=>exact .ins (r.pure s1 p)
def Sl (S:Addr→Prop) (ρ:aq) (h:Mm):Addr→Prop:=fun a=>S a∨bo ρ h a
theorem fL {f:D→Option D} (ih:∀ {d e:D} {v:L2.V},f d=some e→RV W H S ρ d v→RV W H S1 ρ1 e v):∀ {xs ys:List D} {vs:List L2.V},bn f xs=some ys→RVs W H S ρ xs vs→RVs W H S1 ρ1 ys vs
 | [],_,_,e,.nil=>by cases e;exact .nil
 | d :: r,ys,_,e,.cons a t=>by
  simp only[bn]at e
  split at e
  ·split at e
   ·cases e
    exact .cons (ih (by assumption) a) (fL ih (by assumption) t)
   ·cases e
  ·cases e
theorem lG {f:D→Option D} (ih:∀ {d e:D} {v:L2.V},f d=some e→RV W H S ρ d v→RV W H S1 ρ1 e v):∀ {xs ys:List (Str×D)} {vs:List (Str×L2.V)},bn (fun p:Str×D=>(f p.2).map fun y=>(p.1,y)) xs=some ys→RFs W H S ρ xs vs→RFs W H S1 ρ1 ys vs
 | [],_,_,e,.nil=>by cases e;exact .nil
 | (x,d) :: r,ys,_,e,.cons a t=>by
  simp only[bn]at e
  split at e
  ·rename_i b hb
   split at e
   ·cases e
    obtain⟨y,h1,rfl⟩:=Option.map_eq_some_iff.mp hb
    exact .cons (ih h1 a) (lG ih (by assumption) t)
   ·cases e
  ·cases e
theorem iU {f:D→Option D} (ih:∀ {d e:D} {v:L2.V},f d=some e→RV W H S ρ d v→RV W H S1 ρ1 e v):∀ {xs ys:List (D×D)} {vs:List (Key×L2.V)},bn (fun p:D×D=>(f p.2).map fun y=>(p.1,y)) xs=some ys→RKs W H S ρ xs vs→RKs W H S1 ρ1 ys vs
 | [],_,_,e,.nil=>by cases e;exact .nil
 | (x,d) :: r,ys,_,e,q=>by
  simp only[bn]at e
  split at e
  ·rename_i b hb
   split at e
   ·cases e
    obtain⟨y,h1,rfl⟩:=Option.map_eq_some_iff.mp hb
    cases q with
    | int a t=>exact .int (ih h1 a) (iU ih (by assumption) t)
    | str a t=>exact .str (ih h1 a) (iU ih (by assumption) t)
   ·cases e
  ·cases e
theorem lZ {f:D→Option D} (s1:∀ a,S a→S1 a) (ih:∀ {d e:D} {v:L2.V},f d=some e→RV W H S ρ d v→RV W H S1 ρ1 e v):∀ {xs ys:List (D×D)} {vs:List (NestedKey×Addr×Value)},bn (fun p:D×D=>(f p.2).map fun y=>(p.1,y)) xs=some ys→RTs W H S ρ xs vs→RTs W H S1 ρ1 ys vs
 | [],_,_,e,.nil=>by cases e;exact .nil
 | (x,d) :: r,ys,_,e,.cons n hd k a u t=>by
  simp only[bn]at e
  split at e
  ·rename_i b hb
   split at e
   ·cases e
    obtain⟨y,h1,rfl⟩:=Option.map_eq_some_iff.mp hb
    exact .cons n hd (k.pure s1 n.pure) (ih h1 a) u (lZ s1 ih (by assumption) t)
   ·cases e
  ·cases e
theorem nV (R:RH W H S ρ h):∀ (k:Nat) {d e:D} {v:L2.V},frz k h d=some e→RV W H S ρ d v→RV W H (Sl S ρ h) ρ1 e v
 | 0,d,e,v,hf,r=>by
  obtain⟨h1,h2⟩:=aa hf
  cases h2
  exact r.pure (fun _ x=>.inl x) h1
 | k + 1,d,e,v,hf,r=>by
  have s1:∀ a,S a→Sl S ρ h a:=fun _ x=>.inl x
  have ih:∀ {d e:D} {v:L2.V},frz k h d=some e→RV W H S ρ d v→RV W H (Sl S ρ h) ρ1 e v:=fun a b=>nV R k a b
  rw[kL]at hf
  cases hp:aD d with
  | true=>
   rw[hp]at hf
   cases hf
   exact r.pure s1 hp
  | false=>
   rw[hp]at hf
   simp only[cond_false]at hf
   split at hf
   ·obtain⟨ys,h1,rfl⟩:=Option.map_eq_some_iff.mp hf
    cases r with | tup t r=>exact .tup (t.mono s1 fun _ _ _ e=>e) (fL ih h1 r)
   ·obtain⟨ys,h1,rfl⟩:=Option.map_eq_some_iff.mp hf
    cases r with | lst s q r=>exact .lst (s1 _ s) q (fL ih h1 r)
   ·rename_i m
    cases r with
    | @ref n a q=>
     split at hf
     ·rename_i xs g
      obtain⟨ys,h1,rfl⟩:=Option.map_eq_some_iff.mp hf
      obtain⟨a',ho,q',e',_,ro⟩:=R.lv _ _ g
      rw[q]at q';cases q'
      cases ro with | lst r=>exact .lst (.inr ⟨_,_,g,q⟩) e' (fL ih h1 r)
     ·rename_i t kvs g
      obtain⟨ys,h1,rfl⟩:=Option.map_eq_some_iff.mp hf
      obtain⟨a',ho,q',e',_,ro⟩:=R.lv _ _ g
      rw[q]at q';cases q'
      cases ro with
      | dicK r=>exact .dicK (.inr ⟨_,_,g,q⟩) (.inl e') (iU ih h1 r)
      | dicT r=>exact .dicT (.inr ⟨_,_,g,q⟩) (.inl e') (lZ s1 ih h1 r)
     ·rename_i c fs g
      obtain⟨ys,h1,rfl⟩:=Option.map_eq_some_iff.mp hf
      obtain⟨a',ho,q',e',_,ro⟩:=R.lv _ _ g
      rw[q]at q';cases q'
      cases ro with | ins r=>exact .ins (.inr ⟨_,_,g,q⟩) e' (lG ih h1 r)
     ·cases hf
   ·cases hf
def cQ:aq:=fun _=>none
theorem jP {a:Addr}:¬ bo cQ .nil a:=by rintro ⟨n,o,e,q⟩;cases q
theorem jK (R:RH W H S ρ h):RH W H S cQ .nil:=⟨fun n o e=>(by cases e),fun n m a o u e=>(by cases e),fun n a e=>(by cases e),R.st⟩
theorem apart {hf:Mm} {T:Addr→Prop} (R:RH W H S ρ h) (g:Go S cQ .nil H S' ρ' hf H') (R':RH W H' S' ρ' hf) (t1:∀ a,S' a→T a) (t2:∀ a,T a→S' a∨bo ρ' hf a):
  Go S ρ h H T ρ h H'∧RH W H' T ρ h:=by
 have fr:∀ a o,H a=some o→H' a=some o:=fun a o e=>g.fr a o e jP
 have new:∀ a,T a→S a∨H a=none:=fun a s=>by
  rcases t2 a s with q | q
  ·rcases g.sB a q with z | z | z
   ·exact .inl z
   ·exact .inr z
   ·exact absurd z jP
  ·rcases g.lb a q with z | z
   ·exact absurd z jP
   ·exact .inr z
 refine⟨⟨fun a s=>t1 a (g.sS a s),fun a s=>(new a s).elim .inl fun z=>.inr (.inl z),fun _ _ e=>e,fun a o e _=>fr a o e,fun _ l=>.inl l⟩,⟨fun n o e=>?_,R.inj,R.nx,fun a s=>?_⟩⟩
 ·obtain⟨a,ho,q,ea,ns,ro⟩:=R.lv n o e
  refine⟨a,ho,q,fr _ _ ea,fun s=>?_,ro.mono' (fun a s=>t1 a (g.sS a s)) (fun a o _ e=>fr a o e) fun _ _ e=>e⟩
  rcases new a s with z | z
  ·exact ns z
  ·rw[ea]at z;cases z
 ·rcases t2 a s with q | q
  ·exact R'.st a q
  ·obtain⟨n,o,e,q⟩:=q
   obtain⟨b,ho,q',eb,_,_⟩:=R'.lv n o e
   rw[q]at q';cases q'
   exact⟨ho,eb⟩
def be (W:Wd) (n:Nat) (g:List D→Mm→Option (D×Mm)):L2.Sp:=fun vs H Q _=>vs.length=n∧∃ S ρ h ds d h',RVs W H S ρ ds vs∧RH W H S ρ h∧g ds h=some (d,h')∧aN W S ρ h H d h' Q
theorem du {m:Md} {g:List D→Mm→Option (D×Mm)} {n:Nat} {ds vs d Q E} (R:RH W H S ρ h) (r:RVs W H S ρ ds vs) (hn:vs.length=n) (hf:aU m g ds h=some (d,h')) (wq:aN W S ρ h H d h' Q):be W n g vs H Q E:=by
 refine⟨hn,?_⟩
 cases m with
 | sh=>exact⟨S,ρ,h,ds,d,h',r,R,hf,wq⟩
 | iso=>
  simp only[aU]at hf
  obtain⟨hp,hf⟩:=aa hf
  split at hf
  rotate_left
  ·cases hf
  rename_i d1 h1 e1
  split at hf
  rotate_left
  ·cases hf
  rename_i e e2
  cases hf
  refine⟨S,cQ,.nil,ds,d1,h1,r.pure (fun _ x=>x) hp,jK R,e1,fun S1 ρ1 H1 v g1 R1 r1=>?_⟩
  obtain⟨g2,R2⟩:=apart (T:=Sl S1 ρ1 h1) R g1 R1 (fun _ x=>.inl x) fun _ x=>x
  exact wq _ _ _ _ g2 R2 (nV R1 _ e2 r1)
 | liv=>
  simp only[aU]at hf
  obtain⟨hp,hf⟩:=aa hf
  split at hf
  rotate_left
  ·cases hf
  rename_i k h1 e1
  split at hf
  rotate_left
  ·cases hf
  rename_i o e2
  obtain⟨hp2,hf⟩:=aa hf
  obtain⟨rfl,rfl⟩:=bw hf
  refine⟨S,cQ,.nil,ds,_,h1,r.pure (fun _ x=>x) hp,jK R,e1,fun S1 ρ1 H1 v g1 R1 r1=>?_⟩
  cases r1 with
  | @ref _ a q=>
   obtain⟨a',ho,q',ea,ns,ro⟩:=R1.lv _ _ e2
   rw[q]at q';cases q'
   obtain⟨g2,R2⟩:=apart (T:=fun b=>S1 b∨(bo ρ1 h1 b∧b≠a)) R g1 R1 (fun _ x=>.inl x) fun _ x=>x.elim .inl fun z=>.inr z.1
   have nl:¬ bo ρ h a:=fun ⟨m,u,e,z⟩=>by
    obtain⟨b,hb,z',eb,_,_⟩:=R.lv m u e
    rw[z]at z';cases z'
    rcases g1.lb a ⟨_,_,e2,q⟩ with y | y
    ·exact jP y
    ·rw[eb]at y;cases y
   have ha:H a=none:=by
    rcases g1.lb a ⟨_,_,e2,q⟩ with y | y
    ·exact absurd y jP
    ·exact y
   -- the object is laid as a live one of the caller
   have ro':RO W H1 (fun b=>S1 b∨(bo ρ1 h1 b∧b≠a)) (aG ρ h.nx a) a o ho:=ro.pure (fun _ x=>.inl x) hp2
   have nsT:¬ (S1 a∨(bo ρ1 h1 a∧a≠a)):=fun z=>z.elim ns fun z=>z.2 rfl
   have fresh:ρ h.nx=none:=by
    cases q:ρ h.nx with
    | none=>rfl
    | some b=>exact absurd (R.nx _ _ q) (Nat.lt_irrefl _)
   have old:∀ m b,ρ m=some b→aG ρ h.nx a m=some b:=fun m b q=>by
    unfold aG
    rw[if_neg (fun z=>by rw[z,fresh]at q;cases q)]
    exact q
   have live:∀ m u b,(h.new o).2.get m=some u→aG ρ h.nx a m=some b→(m=h.nx∧u=o∧b=a)∨(h.get m=some u∧ρ m=some b):=fun m u b e q=>by
    rw[dy]at e
    by_cases z:h.nx=m
    ·rw[if_pos z]at e;cases e
     subst z
     unfold aG at q
     rw[if_pos rfl]at q;cases q
     exact .inl ⟨rfl,rfl,rfl⟩
    ·rw[if_neg z]at e
     unfold aG at q
     rw[if_neg (Ne.symm z)]at q
     exact .inr ⟨e,q⟩
   refine wq (fun b=>S1 b∨(bo ρ1 h1 b∧b≠a)) (aG ρ h.nx a) H1 _ ⟨g2.sS,g2.sB,old,g2.fr,fun b l=>?_⟩ ⟨fun m u e=>?_,fun m k b u u' e1 e2 q1 q2=>?_,fun m b q=>?_,R2.st⟩ (.ref (by unfold aG;rw[if_pos rfl]))
   ·obtain⟨m,u,e,z⟩:=l
    rcases live m u b e z with ⟨_,_,rfl⟩ | ⟨e,z⟩
    ·exact .inr ha
    ·exact .inl ⟨m,u,e,z⟩
   ·rw[dy]at e
    by_cases z:h.nx=m
    ·rw[if_pos z]at e;cases e
     subst z
     exact⟨a,ho,by unfold aG;rw[if_pos rfl],ea,nsT,ro'⟩
    ·rw[if_neg z]at e
     obtain⟨b,hb,z1,eb,nb,rb⟩:=R2.lv m u e
     exact⟨b,hb,old m b z1,eb,nb,rb.mono' (fun _ x=>x) (fun _ _ _ e=>e) old⟩
   ·rcases live m u b e1 q1 with ⟨z1,_,z2⟩ | ⟨e3,q3⟩
    ·rcases live k u' b e2 q2 with ⟨z3,_,_⟩ | ⟨e4,q4⟩
     ·rw[z1,z3]
     ·subst z2;exact absurd ⟨k,u',e4,q4⟩ nl
    ·rcases live k u' b e2 q2 with ⟨_,_,z2⟩ | ⟨e4,q4⟩
     ·subst z2;exact absurd ⟨m,u,e3,q3⟩ nl
     ·exact R.inj m k b u u' e3 e4 q3 q4
   ·unfold aG at q
    show m < h.nx + 1
    split at q
    ·omega
    ·have:=R.nx m b q;omega
end
def aE:Expr→Bool
 | .Starred _ _=>false
 | .Set _ _ _=>false
 | .Slice _ _ _ _=>false
 | .Call (.Name id _) [] [] _=>id != "super"
 | _=>true
def jh:Expr→Bool
 | .ListComp _ _ _ _=>false
 | .SetComp _ _ _ _=>false
 | .DictComp _ _ _ _ _=>false
 | _=>true
def rg:Expr→Bool
 | .UnaryOp .Not _ _=>false
 | .BoolOp _ _ _=>false
 | .IfExp _ _ _ _=>false
 | .Compare _ _ _ _=>false
 | _=>true
theorem am {e:Expr} {es:List Expr} {env:PySem.Env} (h:aE e=true):starEach (e :: es) env=(false,eval e env) :: starEach es env:=by
 cases e<;>first | rfl | cases h
theorem gU {o:Expr} {f:Str} {env:PySem.Env} (h:aE o=true):attributeBase o f env (eval o env)=eval o env:=by
 unfold attributeBase
 split
 ·rename_i id p pos
  have:(id != "super")=true:=h
  simp only[this,Bool.true_or,if_true]
 ·rfl
theorem wW {b:Expr} (h:aE b=true):L2.PlainIx b:=by
 intro o i
 cases b<;>first | rfl | cases h
theorem hX {b:Expr} {op:CmpOp} (h:aE b=true):behindInMarks op b=false:=by
 cases b<;>first | rfl | cases h
theorem da {e:Expr} {env:PySem.Env} (h:aE e=true):∀ x,foldedSetIterable e env x=pure x:=by
 intro x
 cases e<;>first | rfl | cases h
theorem sk {e:Expr} {env:PySem.Env} (h:rg e=true):∀ whole,isTrue e env whole=(do let v ← whole;standAt e.pos;holding [v] (truthy v)):=by
 intro whole
 cases e with
 | UnaryOp op a p=>cases op<;>first | rfl | cases h
 | BoolOp _ _ _=>cases h
 | IfExp _ _ _ _=>cases h
 | Compare _ _ _ _=>cases h
 | _=>rfl
theorem eW {e:Expr} {t:Option Expr} {l:Nat} {env:PySem.Env} (h:jh e=true):swapsWith e t l env=pure false:=by
 cases e<;>first | rfl | cases h
theorem fM {e t:Expr} {l:Nat} {env:PySem.Env} (h:jh e=true):swapsWithSole [t] e l env=pure false:=eW h
def vH:Expr→Bool
 | .Tuple _ _ _=>false
 | .List _ _=>false
 | _=>true
def uL:Expr→Bool
 | .Tuple _ _ _=>false
 | _=>true
theorem jv {e t:Expr} {env:PySem.Env} (h:(vH t||uL e)=true):swappedStores [t] e env=pure none:=by
 rcases Bool.or_eq_true_iff.mp h with q | q
 ·cases t<;>first | rfl | cases q
 ·cases e<;>first | (cases t<;>rfl) | cases q
section
variable {W:Wd} {H H':HH} {S S' S1:Addr→Prop} {ρ ρ' ρ1:aq} {h h':Mm} {p:Addr} {ho:L2.HO}
theorem Go.upd (g:Go S ρ h H S' ρ' h' H') (hp:H p=none):Go S ρ h H S' ρ' h' (L2.upd H' p ho):=
 ⟨g.sS,g.sB,g.rr,fun a o e l=>by rw[upd_ne (ne_of_none e hp)];exact g.fr a o e l,g.lb⟩
theorem Go.foreign {o:L2.HO} (g:Go S ρ h H S' ρ' h' H') (e:H p=some o) (ns:¬ S p) (nl:¬ bo ρ h p):H' p=some o∧¬ S' p∧¬ bo ρ' h' p:=by
 refine⟨g.fr p o e nl,fun s=>?_,fun l=>?_⟩
 ·rcases g.sB p s with q | q | q
  ·exact ns q
  ·rw[e]at q;cases q
  ·exact nl q
 ·rcases g.lb p l with q | q
  ·exact nl q
  ·rw[e]at q;cases q
theorem k4 (ns:¬ S p):∀ a o,S a→H a=some o→L2.upd H p ho a=some o:=fun a o s e=>by
 rw[upd_ne (fun (z:a=p)=>ns (z ▸ s))];exact e
theorem RH.fo (R:RH W H S ρ h) (ns:¬ S p) (nl:¬ bo ρ h p):RH W (L2.upd H p ho) S ρ h:=by
 refine⟨fun n o e=>?_,R.inj,R.nx,fun a s=>?_⟩
 ·obtain⟨a,u,q,ea,nsa,ro⟩:=R.lv n o e
  refine⟨a,u,q,?_,nsa,ro.mono' (fun _ z=>z) (k4 ns) fun _ _ e=>e⟩
  rw[upd_ne (fun (z:a=p)=>nl ⟨n,o,e,z ▸ q⟩)];exact ea
 ·obtain⟨u,e⟩:=R.st a s
  exact⟨u,k4 ns a u s e⟩
theorem RV.fo {d v} (x:RV W H S ρ d v) (ns:¬ S p):RV W (L2.upd H p ho) S ρ d v:=x.mono' (fun _ z=>z) (k4 ns) fun _ _ e=>e
theorem RVs.fo {d v} (x:RVs W H S ρ d v) (ns:¬ S p):RVs W (L2.upd H p ho) S ρ d v:=x.mono' (fun _ z=>z) (k4 ns) fun _ _ e=>e
theorem RE.fo {env σ} (x:RE W H S ρ env σ) (ns:¬ S p):RE W (L2.upd H p ho) S ρ env σ:=⟨x.len,fun i d e=>let ⟨v,q,r⟩:=x.at_ i d e;⟨v,q,r.fo ns⟩⟩
theorem dY (R:RH W H S ρ h) (hp:H p=none):¬ S p∧¬ bo ρ h p:=by
 refine⟨fun s=>?_,fun ⟨n,o,e,q⟩=>?_⟩
 ·obtain⟨u,e⟩:=R.st p s
  rw[hp]at e;cases e
 ·obtain⟨b,u,q',e',_,_⟩:=R.lv n o e
  rw[q]at q';cases q'
  rw[hp]at e';cases e'
theorem jW {S0 ρ0 h0 H0} (g:Go S0 ρ0 h0 H0 S ρ h H) (R:RH W H S ρ h) (h0p:H0 p=none) (e:H p=some ho) (nl:¬ bo ρ h p):Go S0 ρ0 h0 H0 (Sp S p) ρ h H∧RH W H (Sp S p) ρ h:=by
 refine⟨⟨fun a s=>.inl (g.sS a s),fun a s=>?_,g.rr,g.fr,g.lb⟩,⟨fun n o en=>?_,R.inj,R.nx,fun a s=>?_⟩⟩
 ·rcases s with s | rfl
  ·exact g.sB a s
  ·exact .inr (.inl h0p)
 ·obtain⟨a,u,q,ea,nsa,ro⟩:=R.lv n o en
  refine⟨a,u,q,ea,fun z=>?_,ro.mono' (fun _ z=>.inl z) (fun _ _ _ e=>e) fun _ _ e=>e⟩
  rcases z with z | rfl
  ·exact nsa z
  ·exact nl ⟨n,o,en,q⟩
 ·rcases s with s | rfl
  ·exact R.st a s
  ·exact⟨ho,e⟩
theorem kA {o:O} {S0 ρ0 h0 H0} (g:Go S0 ρ0 h0 H0 S ρ h H) (R:RH W H S ρ h) (h0p:H0 p=none) (e:H p=some ho) (ns:¬ S p) (nl:¬ bo ρ h p) (ro:RO W H S ρ p o ho):
  Go S0 ρ0 h0 H0 S (aG ρ h.nx p) (h.new o).2 H∧RH W H S (aG ρ h.nx p) (h.new o).2:=by
 have fresh:ρ h.nx=none:=by
  cases q:ρ h.nx with
  | none=>rfl
  | some b=>exact absurd (R.nx _ _ q) (Nat.lt_irrefl _)
 have old:∀ m b,ρ m=some b→aG ρ h.nx p m=some b:=fun m b q=>by
  unfold aG
  rw[if_neg (fun z=>by rw[z,fresh]at q;cases q)]
  exact q
 have live:∀ m u b,(h.new o).2.get m=some u→aG ρ h.nx p m=some b→(m=h.nx∧u=o∧b=p)∨(h.get m=some u∧ρ m=some b):=fun m u b e q=>by
  rw[dy]at e
  by_cases z:h.nx=m
  ·rw[if_pos z]at e;cases e
   subst z
   unfold aG at q
   rw[if_pos rfl]at q;cases q
   exact .inl ⟨rfl,rfl,rfl⟩
  ·rw[if_neg z]at e
   unfold aG at q
   rw[if_neg (Ne.symm z)]at q
   exact .inr ⟨e,q⟩
 refine⟨⟨g.sS,g.sB,fun n a q=>old n a (g.rr n a q),g.fr,fun b l=>?_⟩,⟨fun m u e'=>?_,fun m k b u u' e1 e2 q1 q2=>?_,fun m b q=>?_,R.st⟩⟩
 ·obtain⟨m,u,e',z⟩:=l
  rcases live m u b e' z with ⟨_,_,rfl⟩ | ⟨e',z⟩
  ·exact .inr h0p
  ·exact g.lb b ⟨m,u,e',z⟩
 ·rw[dy]at e'
  by_cases z:h.nx=m
  ·rw[if_pos z]at e';cases e'
   subst z
   exact⟨p,ho,by unfold aG;rw[if_pos rfl],e,ns,ro.mono' (fun _ x=>x) (fun _ _ _ e=>e) old⟩
  ·rw[if_neg z]at e'
   obtain⟨b,hb,z1,eb,nb,rb⟩:=R.lv m u e'
   exact⟨b,hb,old m b z1,eb,nb,rb.mono' (fun _ x=>x) (fun _ _ _ e=>e) old⟩
 ·rcases live m u b e1 q1 with ⟨z1,_,z2⟩ | ⟨e3,q3⟩
  ·rcases live k u' b e2 q2 with ⟨z3,_,_⟩ | ⟨e4,q4⟩
   ·rw[z1,z3]
   ·subst z2;exact absurd ⟨k,u',e4,q4⟩ nl
  ·rcases live k u' b e2 q2 with ⟨_,_,z2⟩ | ⟨e4,q4⟩
   ·subst z2;exact absurd ⟨m,u,e3,q3⟩ nl
   ·exact R.inj m k b u u' e3 e4 q3 q4
 ·unfold aG at q
  show m < h.nx + 1
  split at q
  ·omega
  ·have:=R.nx m b q;omega
end
section
variable {W:Wd} {X:Cx}
theorem lD {op} {a:Expr} {pos:Pos} {fa:Fe} (ha:PE X a (tE W fa)):PE X (.BoolOp op [a] pos) (tE W fun env h=>match fa env h with | some (d,h1)=>some (d,h1) | none=>none):=by
 refine (L2.pe_one ha).sub ?_
 rintro σ H Q ⟨env,S,ρ,h,d,h',re,R,hf,wq⟩
 try dsimp only at hf
 split at hf
 ·rename_i d1 h1 ea
  cases hf
  exact⟨env,S,ρ,h,_,_,re,R,ea,wq⟩
 ·cases hf
theorem tX {a b:Expr} {rest:List Expr} {pos:Pos} {fa fb:Fe} (xw:XW W X) (ha:PE X a (tE W fa)) (hb:PE X (.BoolOp .And (b :: rest) pos) (tE W fb)):
  PE X (.BoolOp .And (a :: b :: rest) pos) (tE W fun env h=>match fa env h with
  | some (d,h1)=>(match cu h1 d with
   | some true=>fb env h1
   | some false=>some (d,h1)
   | none=>none)
  | none=>none):=by
 refine (L2.pe_andT ha hb).sub ?_
 rintro σ H Q ⟨env,S,ρ,h,d,h',re,R,hf,wq⟩
 try dsimp only at hf
 split at hf
 rotate_left
 ·cases hf
 rename_i x h1 ea
 refine⟨env,S,ρ,h,x,h1,re,R,ea,fun S1 ρ1 H1 v1 g1 R1 r1=>?_⟩
 split at hf
 ·rename_i et
  exact⟨true,i4 xw R1 r1 et,by rw[if_pos rfl];exact⟨env,S1,ρ1,h1,d,h',re.go g1 R,R1,hf,aN.pre g1 wq⟩⟩
 ·rename_i et
  cases hf
  exact⟨false,i4 xw R1 r1 et,by rw[if_neg Bool.false_ne_true];exact wq _ _ _ _ g1 R1 r1⟩
 ·cases hf
theorem vB {a b:Expr} {rest:List Expr} {pos:Pos} {fa fb:Fe} (xw:XW W X) (ha:PE X a (tE W fa)) (hb:PE X (.BoolOp .Or (b :: rest) pos) (tE W fb)):
  PE X (.BoolOp .Or (a :: b :: rest) pos) (tE W fun env h=>match fa env h with
  | some (d,h1)=>(match cu h1 d with
   | some false=>fb env h1
   | some true=>some (d,h1)
   | none=>none)
  | none=>none):=by
 refine (L2.pe_orT ha hb).sub ?_
 rintro σ H Q ⟨env,S,ρ,h,d,h',re,R,hf,wq⟩
 try dsimp only at hf
 split at hf
 rotate_left
 ·cases hf
 rename_i x h1 ea
 refine⟨env,S,ρ,h,x,h1,re,R,ea,fun S1 ρ1 H1 v1 g1 R1 r1=>?_⟩
 split at hf
 ·rename_i et
  exact⟨false,i4 xw R1 r1 et,by rw[if_neg Bool.false_ne_true];exact⟨env,S1,ρ1,h1,d,h',re.go g1 R,R1,hf,aN.pre g1 wq⟩⟩
 ·rename_i et
  cases hf
  exact⟨true,i4 xw R1 r1 et,by rw[if_pos rfl];exact wq _ _ _ _ g1 R1 r1⟩
 ·cases hf
theorem qk {a:Expr} {pos:Pos} {fa:Fc} (ha:PT X a (tC W fa)):PW X (.BoolOp .And [a] pos) (tC W fun env h=>match fa env h with | some (true,h1)=>some (true,h1) | some (false,h1)=>some (false,h1) | none=>none):=by
 have:=L2.pw_and1 (pos:=pos) ha
 refine⟨fun e pins s σ H Q I hw=>this.run e pins s σ H Q I ?_⟩
 obtain⟨env,S,ρ,h,b',h',re,R,hf,wq⟩:=hw
 try dsimp only at hf
 split at hf
 ·rename_i h1 ea;cases hf;exact⟨env,S,ρ,h,_,_,re,R,ea,wq⟩
 ·rename_i h1 ea;cases hf;exact⟨env,S,ρ,h,_,_,re,R,ea,wq⟩
 ·cases hf
theorem tQ {a:Expr} {pos:Pos} {fa:Fc} (ha:PT X a (tC W fa)):PW X (.BoolOp .Or [a] pos) (tC W fun env h=>match fa env h with | some (false,h1)=>some (false,h1) | some (true,h1)=>some (true,h1) | none=>none):=by
 have:=L2.pw_or1 (pos:=pos) ha
 refine⟨fun e pins s σ H Q I hw=>this.run e pins s σ H Q I ?_⟩
 obtain⟨env,S,ρ,h,b',h',re,R,hf,wq⟩:=hw
 try dsimp only at hf
 split at hf
 ·rename_i h1 ea;cases hf;exact⟨env,S,ρ,h,_,_,re,R,ea,wq⟩
 ·rename_i h1 ea;cases hf;exact⟨env,S,ρ,h,_,_,re,R,ea,wq⟩
 ·cases hf
theorem qp {a b:Expr} {rest:List Expr} {pos:Pos} {fa fb:Fc} (ha:PT X a (tC W fa)) (hb:PW X (.BoolOp .And (b :: rest) pos) (tC W fb)):
  PW X (.BoolOp .And (a :: b :: rest) pos) (tC W fun env h=>match fa env h with | some (true,h1)=>fb env h1 | some (false,h1)=>some (false,h1) | none=>none):=by
 have:=L2.pw_and ha hb
 refine⟨fun e pins s σ H Q I hw=>this.run e pins s σ H Q I ?_⟩
 obtain⟨env,S,ρ,h,b',h',re,R,hf,wq⟩:=hw
 try dsimp only at hf
 split at hf
 ·rename_i h1 ea
  exact⟨env,S,ρ,h,true,h1,re,R,ea,fun S1 ρ1 H1 g1 R1=>by show ite _ _ _;rw[if_pos rfl];exact⟨env,S1,ρ1,h1,b',h',re.go g1 R,R1,hf,fun S2 ρ2 H2 g2 R2=>wq _ _ _ (g1.trans g2) R2⟩⟩
 ·rename_i h1 ea
  cases hf
  exact⟨env,S,ρ,h,false,_,re,R,ea,fun S1 ρ1 H1 g1 R1=>by show ite _ _ _;rw[if_neg Bool.false_ne_true];exact wq _ _ _ g1 R1⟩
 ·cases hf
theorem tJ {a b:Expr} {rest:List Expr} {pos:Pos} {fa fb:Fc} (ha:PT X a (tC W fa)) (hb:PW X (.BoolOp .Or (b :: rest) pos) (tC W fb)):
  PW X (.BoolOp .Or (a :: b :: rest) pos) (tC W fun env h=>match fa env h with | some (false,h1)=>fb env h1 | some (true,h1)=>some (true,h1) | none=>none):=by
 have:=L2.pw_or ha hb
 refine⟨fun e pins s σ H Q I hw=>this.run e pins s σ H Q I ?_⟩
 obtain⟨env,S,ρ,h,b',h',re,R,hf,wq⟩:=hw
 try dsimp only at hf
 split at hf
 ·rename_i h1 ea
  exact⟨env,S,ρ,h,false,h1,re,R,ea,fun S1 ρ1 H1 g1 R1=>by show ite _ _ _;rw[if_neg Bool.false_ne_true];exact⟨env,S1,ρ1,h1,b',h',re.go g1 R,R1,hf,fun S2 ρ2 H2 g2 R2=>wq _ _ _ (g1.trans g2) R2⟩⟩
 ·rename_i h1 ea
  cases hf
  exact⟨env,S,ρ,h,true,_,re,R,ea,fun S1 ρ1 H1 g1 R1=>by show ite _ _ _;rw[if_pos rfl];exact wq _ _ _ g1 R1⟩
 ·cases hf
theorem p8 {a:Expr} {pos:Pos} {fa:Fe} (xw:XW W X) (ha:PE X a (tE W fa)):PE X (.UnaryOp .Not a pos) (tE W fun env h=>match (match fa env h with | some (d,h1)=>(match cu h1 d with | some k=>some (k,h1) | none=>none) | none=>none) with
  | some (k,h1)=>some (.bl (!k),h1)
  | none=>none):=by
 refine (L2.pe_notT ha).sub ?_
 rintro σ H Q ⟨env,S,ρ,h,d,h',re,R,hf,wq⟩
 try dsimp only at hf
 split at hf
 rotate_left
 ·cases hf
 rename_i k h1 e0
 cases hf
 split at e0
 rotate_left
 ·cases e0
 rename_i x h2 ea
 cases et:cu h2 x with
 | none=>rw[et]at e0;cases e0
 | some k'=>
  rw[et]at e0
  cases e0
  refine⟨env,S,ρ,h,x,_,re,R,ea,fun S1 ρ1 H1 v1 g1 R1 r1=>?_⟩
  exact⟨_,i4 xw R1 r1 et,wq _ _ _ _ g1 R1 (.bl _)⟩
end
open L2 (upd upd_same upd_ne ne_of ne_of_none Cx VK OpR SqL SqT Key kV Inv valV putK RelV HOk ObjOk IxR SlR TruR PSet PGet CallR MtR EP PE PT PA PW TE TT TA PO thn CX0 pass0 Room FnOk Gl Binds Cls Meth Mk)
def aJ:List Expr→Bool
 | []=>true
 | e :: r=>aE e&&aJ r
theorem aV {pos:Pos} {env:PySem.Env}:∀ {es:List Expr},aJ es=true→(backTo pos (starEach es env)).any (·.1)=false
 | [],_=>rfl
 | e :: r,h=>by
  simp only[aJ,Bool.and_eq_true]at h
  rw[am h.1]
  have:=aV (pos:=pos) (env:=env) h.2
  simp only[backTo,List.map_cons,List.any_cons]at this ⊢
  rw[this];rfl
theorem gW {pos:Pos} {env:PySem.Env}:∀ {es:List Expr},aJ es=true→(backTo pos (starEach es env)).all (fun x=>!x.1)=true
 | [],_=>rfl
 | e :: r,h=>by
  simp only[aJ,Bool.and_eq_true]at h
  rw[am h.1]
  have:=gW (pos:=pos) (env:=env) h.2
  simp only[backTo,List.map_cons,List.all_cons]at this ⊢
  rw[this];rfl
theorem dE {m:Md} {g:List D→Mm→Option (D×Mm)} {vs:List D} {h:Mm} {r:D×Mm} (hf:aU m g vs h=some r):∃ h0 r0,g vs h0=some r0:=by
 cases m with
 | sh=>exact⟨h,r,hf⟩
 | iso=>
  simp only[aU]at hf
  obtain⟨_,hf⟩:=aa hf
  split at hf
  ·exact⟨_,_,by assumption⟩
  ·cases hf
 | liv=>
  simp only[aU]at hf
  obtain⟨_,hf⟩:=aa hf
  split at hf
  ·exact⟨_,_,by assumption⟩
  ·cases hf
def Ar (n:Nat) (g:List D→Mm→Option (D×Mm)):Prop:=∀ vs h r,g vs h=some r→vs.length=n
abbrev F0:Fa:=fun _ h=>some ([],h)
section
variable {W:Wd} {X:Cx} {f C:Addr} {fd:FuncData} {ps:List Str} {k:Nat} {g:List D→Mm→Option (D×Mm)} {x m:Str} {p pos apos:Pos} {es:List Expr} {fs:Fa} {o:Expr} {fo:Fe}
theorem ee (q:fs=F0) {σ H Q} {env:Env} {S ρ h ds h'} (re:RE W H S ρ env σ) (R:RH W H S ρ h) (e:fs env h=some (ds,h')) (w:∀ S' ρ' H' vs,Go S ρ h H S' ρ' h' H'→RH W H' S' ρ' h'→RVs W H' S' ρ' ds vs→Q vs H'):L2.tNil σ H Q:=by
 subst q
 cases e
 exact w _ _ _ _ .refl R .nil
theorem o7 {md:Md} (F:FnOk X.prog X.w X.K X.mg X.base CX0 k f fd ps (be W ps.length g)) (ar:Ar ps.length g) (hr:Room k X.A) (hg:Gl X x) (hm:X.mg x=some (.ref f)) (hk:PySem.W.keepIn X.K (.ref f)=true) (hb:Binds X.K fd ps [])
  (hdb:(x == ("__debug__":Str))=false) (pl:aJ es=true) (h0:es=[]→fs=F0) (ha:PA X es (bK W fs)):
  PE X (.Call (.Name x p) es [] pos) (tE W fun env h=>match fs env h with | some (vs,h1)=>aU md g vs h1 | none=>none):=by
 have key:∀ (t:TA),(∀ σ H Q,bK W fs σ H Q→t σ H Q)→∀ σ H Q,tE W (fun env h=>match fs env h with | some (vs,h1)=>aU md g vs h1 | none=>none) σ H Q→L2.tCall (be W ps.length g) [] L2.E0 t σ H Q:=by
  rintro t ht σ H Q ⟨env,S,ρ,h,d,h',re,R,hf,wq⟩
  try dsimp only at hf
  split at hf
  rotate_left
  ·cases hf
  rename_i vs h1 ea
  refine ht _ _ _ ⟨env,S,ρ,h,vs,h1,re,R,ea,fun S1 ρ1 H1 us g1 R1 r1=>?_⟩
  show be W ps.length g (us++[]) H1 Q L2.E0
  rw[List.append_nil]
  obtain⟨h0,r0,e0⟩:=dE hf
  exact du R1 r1 (by rw[← r1.len];exact ar _ _ _ e0) hf (aN.pre g1 wq)
 cases es with
 | nil=>exact L2.PE.sub (L2.pe_call0 F hr hg hm hk hb .nil pass0 hdb) (key _ fun σ H Q ⟨env,S,ρ,h,ds,h',re,R,e,w⟩=>ee (h0 rfl) re R e w)
 | cons e r=>
  simp only[aJ,Bool.and_eq_true]at pl
  exact L2.PE.sub (L2.pe_call F hr hg hm hk hb .nil pass0 ha hdb (am pl.1) (aV pl.2)) (key _ fun _ _ _ z=>z)
theorem pf {md:Md} {c:Nat} {pl0:Sem Bool} (ho:PE X o (tE W fo)) (xw:XW W X) (hc:Cls W.K (W.cA c)) (hm:Meth W.K (W.cA c) m f) (F:FnOk X.prog X.w X.K X.mg X.base CX0 k f fd ps (be W ps.length g)) (ar:Ar ps.length g) (hr:Room k X.A) (hb:Binds X.K fd ps [])
  (pl:aJ es=true) (h0:es=[]→fs=F0) (ha:PA X es (bK W fs))
  (ht:eval (.Call (.Attribute o m apos) es [] pos) X.env=(do
   let ov ← eval o X.env
   standAt apos.atName
   let (f,first) ← holding [ov] (getMethod ov m pl0)
   callWith pos f first (backTo pos (starEach es X.env)) (backToKw pos (keywordEach [] X.env)))):
  PE X (.Call (.Attribute o m apos) es [] pos) (tE W fun env h=>match fo env h with
  | some (x,h1)=>(match aO h1 x with
   | some (c',gs)=>bif Nat.beq c c'&&(aY gs m).isNone then (match fs env h1 with
    | some (vs,h2)=>aU md g (x :: vs) h2
    | none=>none) else none
   | none=>none)
  | none=>none):=by
 have key:∀ (t:TA),(∀ σ H Q,bK W fs σ H Q→t σ H Q)→∀ σ H Q,tE W (fun env h=>match fo env h with
  | some (x,h1)=>(match aO h1 x with
   | some (c',gs)=>bif Nat.beq c c'&&(aY gs m).isNone then (match fs env h1 with
    | some (vs,h2)=>aU md g (x :: vs) h2
    | none=>none) else none
   | none=>none)
  | none=>none) σ H Q→L2.tMeth (W.cA c) m (be W ps.length g) [] L2.E0 (tE W fo) t σ H Q:=by
  rintro t ht σ H Q ⟨env,S,ρ,h,d,h',re,R,hf,wq⟩
  try dsimp only at hf
  split at hf
  rotate_left
  ·cases hf
  rename_i x h1 ea
  split at hf
  rotate_left
  ·cases hf
  rename_i c' gs ei
  obtain⟨hcc,hf2⟩:=aa hf
  rw[Bool.and_eq_true]at hcc
  obtain⟨hc1,hc2⟩:=hcc
  have hc1:=Nat.eq_of_beq_eq_true hc1
  clear hf
  subst hc1
  split at hf2
  rotate_left
  ·cases hf2
  rename_i vs h2 eb
  refine⟨env,S,ρ,h,x,h1,re,R,ea,fun S1 ρ1 H1 v1 g1 R1 r1=>?_⟩
  obtain⟨a,dx,gs',rfl,e1,rf⟩:=fB ei R1 r1
  have hl:gs'.lookup m=none:=by
   rcases dD (f:=m) rf with ⟨_,q⟩ | ⟨d0,v0,q,_⟩
   ·exact q
   ·rw[q]at hc2;cases hc2
  refine⟨a,dx,gs',rfl,e1,hl,ht _ _ _ ⟨env,S1,ρ1,h1,vs,h2,re.go g1 R,R1,eb,fun S2 ρ2 H2 us g2 R2 r2=>?_⟩⟩
  show be W ps.length g (L2.V.ref a :: (us++[])) H2 Q L2.E0
  rw[List.append_nil]
  obtain⟨h0,r0,e0⟩:=dE hf2
  have hr3:RVs W H2 S2 ρ2 (x :: vs) (L2.V.ref a :: us):=.cons (r1.go g2 R1) r2
  exact du R2 hr3 (by rw[← hr3.len];exact ar _ _ _ e0) hf2 (aN.pre (g1.trans g2) wq)
 have hc':Cls X.K (W.cA c):=by rw[xw.K];exact hc
 have hm':Meth X.K (W.cA c) m f:=by rw[xw.K];exact hm
 cases es with
 | nil=>exact L2.PE.sub (L2.pe_meth0 ho hc' hm' F hr hb .nil pass0 ht) (key _ fun σ H Q ⟨env,S,ρ,h,ds,h',re,R,e,w⟩=>ee (h0 rfl) re R e w)
 | cons e r=>
  simp only[aJ,Bool.and_eq_true]at pl
  exact L2.PE.sub (L2.pe_meth ho hc' hm' F hr hb .nil pass0 ha (am pl.1) (aV pl.2) ht) (key _ fun _ _ _ z=>z)
theorem p6 {md:Md} {c:Nat} {k1:Cl} {P:Prg} {c2:Fs} (hP:P.cls c=some k1) (xw:XW W X) (M:Mk W.K (W.cA c) f) (F:FnOk X.prog X.w X.K X.mg X.base CX0 k f fd ps (be W ps.length (c2 k1.init))) (ar:Ar ps.length (c2 k1.init)) (hr:Room (k + 1) X.A) (hb:Binds X.K fd ps [])
  (hg:Gl X x) (hm:X.mg x=some (.ref (W.cA c))) (hdb:(x == ("__debug__":Str))=false) (pl:aJ es=true) (h0:es=[]→fs=F0) (ha:PA X es (bK W fs)):
  PE X (.Call (.Name x p) es [] pos) (tE W fun env h=>match fs env h with
  | some (vs,h1)=>aU md (fun vs h=>match P.cls c with
   | some k=>(match c2 k.init (.ref h.nx :: vs) (h.new (.ins c [])).2 with
    | some (.non,h2)=>some (.ref h.nx,h2)
    | _=>none)
   | none=>none) vs h1
  | none=>none):=by
 have key:∀ (t:TA),(∀ σ H Q,bK W fs σ H Q→t σ H Q)→∀ σ H Q,tE W (fun env h=>match fs env h with
  | some (vs,h1)=>aU md (fun vs h=>match P.cls c with
   | some k=>(match c2 k.init (.ref h.nx :: vs) (h.new (.ins c [])).2 with
    | some (.non,h2)=>some (.ref h.nx,h2)
    | _=>none)
   | none=>none) vs h1
  | none=>none) σ H Q→L2.tMake (W.cA c) (be W ps.length (c2 k1.init)) [] L2.E0 t σ H Q:=by
  rintro t ht σ H Q ⟨env,S,ρ,h,d,h',re,R,hf,wq⟩
  try dsimp only at hf
  split at hf
  rotate_left
  ·cases hf
  rename_i vs h1 ea
  refine ht _ _ _ ⟨env,S,ρ,h,vs,h1,re,R,ea,fun S1 ρ1 H1 us g1 R1 r1 y dx hy hdx hne=>?_⟩
  show be W ps.length (c2 k1.init) (L2.V.ref y :: (us++[])) _ _ L2.E0
  rw[List.append_nil]
  obtain⟨_,S2,ρ2,h2,ds,d2,h3,r2,R2,hf2,wq2⟩:=du (n:=us.length) (E:=L2.E0) R1 r1 rfl hf (aN.pre g1 wq)
  rw[hP]at hf2
  dsimp only at hf2
  split at hf2
  rotate_left
  ·cases hf2
  rename_i h4 e4
  cases hf2
  obtain⟨ns,nl⟩:=dY R2 hdx
  have R3:RH W (upd H1 dx (.own y)) S2 ρ2 h2:=R2.fo ns nl
  have g3:Go S2 ρ2 h2 H1 S2 ρ2 h2 (upd H1 dx (.own y)):=Go.upd .refl hdx
  have hy':upd H1 dx (.own y) y=none:=by rw[upd_ne (Ne.symm hne)];exact hy
  obtain⟨g4,R4⟩:=my (o:=.ins c []) (ho:=.ins (W.cA c) dx []) R3 hy' (.ins .nil)
  have r4:RVs W (upd (upd H1 dx (.own y)) y (.ins (W.cA c) dx [])) S2 (aG ρ2 h2.nx y) (.ref h2.nx :: ds) (L2.V.ref y :: us):=by
   refine .cons (.ref (by unfold aG;rw[if_pos rfl])) ?_
   exact (r2.fo ns).go g4 R3
  refine⟨?_,S2,aG ρ2 h2.nx y,(h2.new (.ins c [])).2,_,_,h3,r4,R4,e4,fun S5 ρ5 H5 v5 g5 R5 r5=>?_⟩
  ·rw[← r4.len];exact ar _ _ _ e4
  ·cases r5
   exact⟨rfl,wq2 S5 ρ5 H5 _ ((g3.trans g4).trans g5) R5 (.ref (g5.rr _ _ (by unfold aG;rw[if_pos rfl])))⟩
 have M':Mk X.K (W.cA c) f:=by rw[xw.K];exact M
 cases es with
 | nil=>exact L2.PE.sub (L2.pe_make0 M' F hr hg hm hb .nil pass0 hdb) (key _ fun σ H Q ⟨env,S,ρ,h,ds,h',re,R,e,w⟩=>ee (h0 rfl) re R e w)
 | cons e r=>
  simp only[aJ,Bool.and_eq_true]at pl
  exact L2.PE.sub (L2.pe_make M' F hr hg hm hb .nil pass0 ha hdb (am pl.1) (aV pl.2)) (key _ fun _ _ _ z=>z)
end
def kq:Bt→Str
 | .len=>"len" | .abs=>"abs" | .max2=>"max" | .maxL=>"max" | .min2=>"min" | .sumL=>"sum" | .tupleOf=>"tuple" | .listOf=>"list" | .repr=>"repr" | .strOf=>"str" | .intOf=>"int"
 | .divmod=>"divmod"
 | .allL=>"all" | .anyL=>"any" | .dictOf=>"dict" | .sorted=>"sorted" | .dictOfT=>"dict"
theorem qD (b:Bt):bootBuiltins (kq b)=some (vj b):=by
 cases b<;>decide +kernel
theorem uN (b:Bt):kq b≠"__name__"∧(kq b == ("__debug__":Str))=false:=by
 cases b<;>(constructor<;>decide)
section
variable {W:Wd} {X:Cx} {p pos apos:Pos} {es:List Expr} {e o:Expr} {fs:Fa} {fo:Fe}
theorem sY {b:Bt} {z:Bool} (xw:XW W X) (gd:b = .repr→X.A.guards=some []) (hg:Gl X (kq b)) (hm:X.mg (kq b)=none) (pl:aJ (e :: es)=true) (ha:PA X (e :: es) (bK W fs)):
  PE X (.Call (.Name (kq b) p) (e :: es) [] pos) (tE W fun env h=>match fs env h with | some (vs,h1)=>cG b z vs h1 | none=>none):=by
 have key:∀ σ H Q,tE W (fun env h=>match fs env h with | some (vs,h1)=>cG b z vs h1 | none=>none) σ H Q→L2.tCB (rC W (cG b z)) (bK W fs) σ H Q:=by
  rintro σ H Q ⟨env,S,ρ,h,d,h',re,R,hf,wq⟩
  try dsimp only at hf
  split at hf
  rotate_left
  ·cases hf
  rename_i vs h1 ea
  exact⟨env,S,ρ,h,vs,h1,re,R,ea,fun S1 ρ1 H1 us g1 R1 r1=>⟨S1,ρ1,h1,vs,d,h',r1,R1,hf,aN.pre g1 wq⟩⟩
 simp only[aJ,Bool.and_eq_true]at pl
 have hb:=yK xw b gd z
 have hv:=qD b
 obtain⟨n1,n2⟩:=uN b
 generalize hx:vj b=v at hb hv
 cases b<;>(first
  | (cases hx;exact L2.PE.sub (L2.pe_callB hb hg hm hv ha n1 n2 (am pl.1) (aV pl.2)) key)
  | (cases hx;exact L2.PE.sub (L2.pe_callTy hb hg hm hv ha n1 n2 (am pl.1) (aV pl.2)) key))
theorem lQ (t:Ty):bootBuiltins (Str.ofString (cN t))=some (.type (cN t)):=by
 cases t<;>decide +kernel
theorem ju (t:Ty):Str.ofString (cN t)≠"__name__"∧(Str.ofString (cN t) == ("__debug__":Str))=false:=by
 cases t<;>(constructor<;>decide)
theorem wP {K:PySem.W.Frag} {H:HH} {a:Addr} {ks:List (Key×L2.V)} (e:L2.Rd H a (.dK ks)):L2.TyX K H (.ref a) (.type "dict"):=by
 rcases e with e | ⟨o,e⟩
 ·exact .base (.dK e)
 ·exact .fDict e
theorem RT.ty {H:HH} {S a xs} (t:RT W H S a xs):L2.TyX W.K H (.ref a) (.type "tuple"):=by
 rcases t with ⟨_,e⟩ | ⟨o,its,n,e,c,_⟩
 ·exact .base (.tup e)
 ·exact .kTuple e c
theorem vY {S:Addr→Prop} {ρ:aq} {h:Mm} {H:HH} {d:D} {v:L2.V} {t:Ty} {k:Bool} (R:RH W H S ρ h) (r:RV W H S ρ d v) (hf:df t d h=some k):∃ u,L2.TyX W.K H v u∧PySem.W.kitOne W.K u (.type (cN t))=some k:=by
 cases d with
 | non=>cases hf;cases r;exact⟨_,.base .non,L2.kit_ty (by cases t<;>decide +kernel)⟩
 | bl b=>cases r;refine⟨_,.base (.bl _),L2.kit_ty ?_⟩;cases t<;>cases hf<;>decide +kernel
 | int b=>cases r;refine⟨_,.base (.int _),L2.kit_ty ?_⟩;cases t<;>cases hf<;>decide +kernel
 | str b=>cases r;refine⟨_,.base (.str _),L2.kit_ty ?_⟩;cases t<;>cases hf<;>decide +kernel
 | tup xs=>cases r with | tup ta ra=>refine⟨_,ta.ty,L2.kit_ty ?_⟩;cases t<;>cases hf<;>decide +kernel
 | lst xs=>cases r with | lst s e ra=>refine⟨_,.base (.lst e),L2.kit_ty ?_⟩;cases t<;>cases hf<;>decide +kernel
 | dic b kvs=>
  cases b with
  | false=>cases r with | dicK s e ra=>refine⟨_,wP e,L2.kit_ty ?_⟩;cases t<;>cases hf<;>decide +kernel
  | true=>cases t<;>cases hf
 | ins c fs=>cases t<;>cases hf
 | frl c=>cases t<;>cases hf
 | kd c=>cases t<;>cases hf
 | fn c=>cases t<;>cases hf
 | ref n=>
  cases r with
  | ref q=>
   cases g:h.get n with
   | none=>cases t<;>simp[df,g]at hf
   | some o=>
    obtain⟨a',ho,q',ea,ns,ro⟩:=R.lv _ _ g
    rw[q]at q';cases q'
    cases ro with
    | lst r=>
     refine⟨_,.base (.lst ea),L2.kit_ty ?_⟩
     cases t<;>simp[df,g]at hf<;>subst hf<;>decide +kernel
    | dicK r=>
     refine⟨_,.base (.dK ea),L2.kit_ty ?_⟩
     cases t<;>simp[df,g]at hf<;>subst hf<;>decide +kernel
    | dicT r=>cases t<;>simp[df,g]at hf
    | ins r=>cases t<;>simp[df,g]at hf
theorem tz {t:Ty} {p2:Pos} (xw:XW W X) (hg:Gl X "isinstance") (hm:X.mg "isinstance" = none) (hg2:Gl X (Str.ofString (cN t))) (hm2:X.mg (Str.ofString (cN t))=none) (pl:aE e=true) (he:PE X e (tE W fo)):
  PE X (.Call (.Name "isinstance" p) [e,.Name (Str.ofString (cN t)) p2] [] pos) (tE W fun env h=>match fo env h with | some (x,h1)=>(match df t x h1 with | some k=>some (.bl k,h1) | none=>none) | none=>none):=by
 have h2:PE X (.Name (Str.ofString (cN t)) p2) (L2.tC (.ty (cN t))):=L2.pe_bltn hg2 hm2 (lQ t) rfl (ju t).1 (ju t).2
 refine L2.PE.sub (L2.pe_callB L2.call_isi hg hm PyProof.Rows.boot_isinstance (L2.pa_cons he (L2.pa_cons h2 L2.pa_nil (am rfl)) (am pl)) (by decide) (by decide) (am pl) (aV (by rfl))) ?_
 rintro σ H Q ⟨env,S,ρ,h,d,h',re,R,hf,wq⟩
 try dsimp only at hf
 split at hf
 rotate_left
 ·cases hf
 rename_i x h1 ea
 refine⟨env,S,ρ,h,x,h1,re,R,ea,fun S1 ρ1 H1 v1 g1 R1 r1=>?_⟩
 cases ei:df t x h1 with
 | none=>rw[ei]at hf;cases hf
 | some k=>
  rw[ei]at hf
  cases hf
  obtain⟨u,ty,kt⟩:=vY R1 r1 ei
  rw[← xw.K]at ty kt
  exact⟨v1,.ty (cN t),u,.type (cN t),k,rfl,.ty _,ty,kt,wq _ _ _ _ g1 R1 (.bl _)⟩
def oJ:Bm→String
 | .append=>"list" | .extend=>"list" | .extendT=>"list" | .pop=>"list" | .get1=>"dict" | .get2=>"dict" | .setdefault=>"dict" | .join=>"str" | .split=>"str" | .update=>"dict" | .popD=>"dict" | .partition=>"str" | .lstripC=>"str" | .countL=>"list" | .countS=>"str" | .indexS=>"str" | .countT=>"list"
def mo:Bm→Str
 | .append=>"append" | .extend=>"extend" | .extendT=>"extend" | .pop=>"pop" | .get1=>"get" | .get2=>"get" | .setdefault=>"setdefault" | .join=>"join" | .split=>"split" | .update=>"update" | .popD=>"pop" | .partition=>"partition" | .lstripC=>"lstrip" | .countL=>"count" | .countS=>"count" | .indexS=>"index" | .countT=>"count"
def gO:Bm→Bool
 | .append=>true | .extend=>true | .extendT=>true | .get1=>true | .get2=>true | .setdefault=>true | .split=>true | .update=>true | .pop=>true | .popD=>true | .join=>true | .partition=>true | .lstripC=>true | .countL=>true | .countS=>true | .indexS=>true | .countT=>true
theorem kZ (b:Bm) (h:gO b=true):PlainAttrs (oJ b)∧Slot (oJ b) (mo b) (nR b)∧typeOf (.builtin (nR b))=pure (.type "method_descriptor"):=by
 cases b with
 | append=>exact⟨F.plainAttrs_list,F.slot_list_append,F.type_list_append⟩
 | extend=>exact⟨F.plainAttrs_list,F.slot_list_extend,F.type_list_extend⟩
 | extendT=>exact⟨F.plainAttrs_list,F.slot_list_extend,F.type_list_extend⟩
 | get1=>exact⟨F.plainAttrs_dict,F.slot_dict_get,F.type_dict_get⟩
 | get2=>exact⟨F.plainAttrs_dict,F.slot_dict_get,F.type_dict_get⟩
 | split=>exact⟨F.plainAttrs_str,F.slot_str_split,F.type_str_split⟩
 | setdefault=>exact⟨F.plainAttrs_dict,F.slot_dict_setdefault,F.type_dict_setdefault⟩
 | update=>exact⟨F.plainAttrs_dict,F.slot_dict_update,F.type_dict_update⟩
 | pop=>exact⟨F.plainAttrs_list,F.slot_list_pop,F.type_list_pop⟩
 | popD=>exact⟨F.plainAttrs_dict,F.slot_dict_pop,F.type_dict_pop⟩
 | join=>exact⟨F.plainAttrs_str,F.slot_str_join,F.type_str_join⟩
 | partition=>exact⟨F.plainAttrs_str,F.slot_str_partition,F.type_str_partition⟩
 | lstripC=>exact⟨F.plainAttrs_str,F.slot_str_lstrip,F.type_str_lstrip⟩
 | countL=>exact⟨F.plainAttrs_list,F.slot_list_count,F.type_list_count⟩
 | countT=>exact⟨F.plainAttrs_list,F.slot_list_count,F.type_list_count⟩
 | countS=>exact⟨F.plainAttrs_str,F.slot_str_count,F.type_str_count⟩
 | indexS=>exact⟨F.plainAttrs_str,F.slot_str_index,F.type_str_index⟩
theorem rq {pins σ s} {b:Bm} {S:Addr→Prop} {ρ:aq} {h:Mm} {H:HH} {d:D} {x:L2.V} {v:Value} (xw:XW W X) (hb:gO b=true) (I:Inv X pins σ H s) (R:RH W H S ρ h) (r:RV W H S ρ d x) (rx:RelV x v) (ht:gz b d h=true):
  s.TypeIs v (oJ b)∧∀ a,v = .ref a→∃ ob,s.heap.get? a=some ob∧ob.dict=none:=by
 have lst:∀ (n:Nat),d = .ref n→(match h.get n with | some (.lst _)=>true | _=>false)=true→s.TypeIs v "list"∧∀ a,v = .ref a→∃ ob,s.heap.get? a=some ob∧ob.dict=none:=fun n e q=>by
  subst e
  split at q
  ·rename_i xs g
   obtain⟨a,vs,rfl,ea,_⟩:=bG (d:=.ref n) (xs:=xs) (by simp[listOf,g]) R r
   exact L2.tyV_is I rx (.inl ⟨rfl,_,SqL.of ea⟩)
  ·cases q
 have dct:(dictOf h d).isSome=true→s.TypeIs v "dict"∧∀ a,v = .ref a→∃ ob,s.heap.get? a=some ob∧ob.dict=none:=fun q=>by
  obtain⟨⟨t,kvs⟩,e⟩:=Option.isSome_iff_exists.mp q
  exact lf xw I R e r rx
 cases b with
 | pop=>
  cases d with
  | ref n=>exact lst n rfl ht
  | _=>cases ht
 | popD=>exact dct ht
 | join=>
  cases d with
  | str x=>
   cases r
   obtain⟨t,rfl⟩:=rx
   exact⟨rfl,fun a e=>by cases e⟩
  | _=>cases ht
 | partition=>
  cases d with
  | str x=>
   cases r
   obtain⟨t,rfl⟩:=rx
   exact⟨rfl,fun a e=>by cases e⟩
  | _=>cases ht
 | lstripC=>
  cases d with
  | str x=>
   cases r
   obtain⟨t,rfl⟩:=rx
   exact⟨rfl,fun a e=>by cases e⟩
  | _=>cases ht
 | countS=>
  cases d with
  | str x=>
   cases r
   obtain⟨t,rfl⟩:=rx
   exact⟨rfl,fun a e=>by cases e⟩
  | _=>cases ht
 | indexS=>
  cases d with
  | str x=>
   cases r
   obtain⟨t,rfl⟩:=rx
   exact⟨rfl,fun a e=>by cases e⟩
  | _=>cases ht
 | countT=>
  obtain⟨xs,e⟩:=Option.isSome_iff_exists.mp (show (listOf h d).isSome=true from ht)
  obtain⟨a,vs,rfl,ea,_⟩:=bG e R r
  exact L2.tyV_is I rx (.inl ⟨rfl,_,SqL.of ea⟩)
 | countL=>
  obtain⟨xs,e⟩:=Option.isSome_iff_exists.mp (show (listOf h d).isSome=true from ht)
  obtain⟨a,vs,rfl,ea,_⟩:=bG e R r
  exact L2.tyV_is I rx (.inl ⟨rfl,_,SqL.of ea⟩)
 | append=>
  cases d with
  | ref n=>exact lst n rfl ht
  | _=>cases ht
 | extend=>
  cases d with
  | ref n=>exact lst n rfl ht
  | _=>cases ht
 | extendT=>
  cases d with
  | ref n=>exact lst n rfl ht
  | _=>cases ht
 | split=>
  cases d with
  | str x=>
   cases r
   obtain⟨t,rfl⟩:=rx
   exact⟨rfl,fun a e=>by cases e⟩
  | _=>cases ht
 | get1=>exact dct ht
 | setdefault=>exact dct ht
 | update=>exact dct ht
 | get2=>
  simp only[gz,Bool.or_eq_true]at ht
  rcases ht with q | q
  ·exact dct q
  ·cases d with
   | kd kvs=>
    cases r with
    | kd kd=>
     obtain⟨hs,es,n,hl,hk,hx⟩:=kd
     cases rx
     rw[← xw.K]at hl
     have e:=I.kIn _ _ hl
     exact⟨⟨_,e,rfl⟩,fun b q=>by cases q;exact⟨_,e,rfl⟩⟩
   | _=>cases q
theorem vU {b:Bm} {cpos:Pos} (xw:XW W X) (hb:gO b=true) (ho:PE X o (tE W fo)) (po:aE o=true) (pl:aJ (e :: es)=true) (few:(e :: es).length < 30) (hline:(apos.endLine == cpos.line)=true) (ha:PA X (e :: es) (bK W fs)):
  PE X (.Call (.Attribute o (mo b) apos) (e :: es) [] cpos) (tE W fun env h=>match fo env h with
  | some (x,h1)=>bif gz b x h1 then (match fs env h1 with
   | some (vs,h2)=>nT b x vs h2
   | none=>none) else none
  | none=>none):=by
 obtain⟨pa,slot,hty⟩:=kZ b hb
 have pl':=pl
 simp only[aJ,Bool.and_eq_true]at pl'
 have hfew:((backTo cpos (starEach (e :: es) X.env)).all (fun x=>!x.1)&&(backToKw cpos (keywordEach [] X.env)).all (fun x=>x.1.isSome)
   && decide ((e :: es).length + ([]:List Keyword).length + (if ([]:List Keyword).isEmpty then 0 else 1) < 30))=true:=by
  rw[gW pl]
  simp only[Bool.true_and,Bool.and_eq_true,decide_eq_true_eq]
  exact⟨rfl,by simpa using few⟩
 refine⟨fun pins s σ H Q I hw=>?_⟩
 obtain⟨env,S,ρ,h,d,h',re,R,hf,wq⟩:=hw
 try dsimp only at hf
 split at hf
 rotate_left
 ·cases hf
 rename_i x h1 ea
 obtain⟨hty2,hf2⟩:=aa hf
 split at hf2
 rotate_left
 ·cases hf2
 rename_i vs h2 eb
 refine wpAny_Call_method_late (gU po) hfew hline rfl (thn (ho.run pins s σ H (fun v H1=>∃ S1 ρ1,Go S ρ h H S1 ρ1 h1 H1∧RH W H1 S1 ρ1 h1∧RV W H1 S1 ρ1 x v) I ⟨env,S,ρ,h,x,h1,re,R,ea,fun S1 ρ1 H1 v1 g1 R1 r1=>⟨S1,ρ1,g1,R1,r1⟩⟩) fun v s1 ⟨x',H1,I1,rx,S1,ρ1,g1,R1,r1⟩=>?_)
 obtain⟨t1,t2⟩:=rq xw hb I1 R1 r1 rx hty2
 refine⟨oJ b,nR b,pa,slot,hty,t1,t2,?_⟩
 have hA:=ha.run cpos pins s1 σ H1 (fun us H2=>∃ S2 ρ2,Go S1 ρ1 h1 H1 S2 ρ2 h2 H2∧RH W H2 S2 ρ2 h2∧RVs W H2 S2 ρ2 vs us) I1 ⟨env,S1,ρ1,h1,vs,h2,re.go g1 R,R1,eb,fun S2 ρ2 H2 us g2 R2 r2=>⟨S2,ρ2,g2,R2,r2⟩⟩
 rw[am pl'.1]at hA ⊢
 refine PySem.Calls.callWith_builtin (by show (false||(backTo cpos (starEach es X.env)).any (·.1))=false;rw[aV pl'.2]<;>rfl) (PySem.Calls.evalArgs_plain ?_)
 exact thn hA fun us s2 ⟨vs',H2,I2,rv,S2,ρ2,g2,R2,r2⟩=>AZ xw b pins s2 σ H2 x' vs' v us Q I2 rx rv ⟨S2,ρ2,h2,x,vs,d,h',r1.go g2 R1,r2,R2,hf2,aN.pre (g1.trans g2) wq⟩
end
inductive RPs (W:Wd) (H:HH) (S:Addr→Prop) (ρ:aq):List (D×D)→List (L2.V×L2.V)→Prop
 | nil:RPs W H S ρ [] []
 | cons {d v e u ds vs}:RV W H S ρ d v→RV W H S ρ e u→RPs W H S ρ ds vs→RPs W H S ρ ((d,e) :: ds) ((v,u) :: vs)
abbrev Fk:=Env→Mm→Option (List (D×D)×Mm)
section
variable {W:Wd} {X:Cx} {pos:Pos} {H H':HH} {S S':Addr→Prop} {ρ ρ':aq} {h h':Mm}
theorem RPs.mono' (s1:∀ a,S a→S' a) (s2:∀ a o,S a→H a=some o→H' a=some o) (rr:∀ n a,ρ n=some a→ρ' n=some a):∀ {d v},RPs W H S ρ d v→RPs W H' S' ρ' d v
 | _,_,.nil=>.nil
 | _,_,.cons a b r=>.cons (a.mono' s1 s2 rr) (b.mono' s1 s2 rr) (RPs.mono' s1 s2 rr r)
structure PPsW (W:Wd) (X:Cx) (pos:Pos) (keys:List (Option Expr)) (values:List Expr) (f:Fk):Prop where
 run:∀ (pins:List (Addr×Obj)) (s:Shared) (σ:L2.St) (H:HH) (Q:List (L2.V×L2.V)→HH→Prop),Inv X pins σ H s →
  (∃ env S ρ h ps h',RE W H S ρ env σ∧RH W H S ρ h∧f env h=some (ps,h')∧∀ S' ρ' H' ws,Go S ρ h H S' ρ' h' H'→RH W H' S' ρ' h'→RPs W H' S' ρ' ps ws→Q ws H') →
  wpAny (model X.prog X.w) X.A (evalPairs (pairTrees keys values X.env pos)) (fun vs s'=>∃ ps H',Inv X pins σ H' s'∧L2.VV ps vs∧Q ps H') X.xe s
theorem uB:PPsW W X pos [] [] fun _ h=>some ([],h):=⟨fun pins s σ H Q I ⟨env,S,ρ,h,ps,h',re,R,hf,wq⟩=>by
 cases hf
 exact pairTrees_nil_walk ⟨[],H,I,.nil,wq _ _ _ _ .refl R .nil⟩⟩
theorem pQ {k v:Expr} {ks:List (Option Expr)} {vs:List Expr} {fk fv:Fe} {fr:Fk} (hk:PE X k (tE W fk)) (hv:PE X v (tE W fv)) (hr:PPsW W X pos ks vs fr):
  PPsW W X pos (some k :: ks) (v :: vs) fun env h=>match fk env h with
  | some (k,h1)=>(match fv env h1 with
   | some (v,h2)=>(match fr env h2 with
    | some (ps,h3)=>some ((k,v) :: ps,h3)
    | none=>none)
   | none=>none)
  | none=>none:=by
 refine⟨fun pins s σ H Q I ⟨env,S,ρ,h,ps,h',re,R,hf,wq⟩=>?_⟩
 try dsimp only at hf
 split at hf
 rotate_left
 ·cases hf
 rename_i x h1 ea
 split at hf
 rotate_left
 ·cases hf
 rename_i y h2 eb
 split at hf
 rotate_left
 ·cases hf
 rename_i qs h3 ec
 cases hf
 refine pairTrees_cons_walk (thn (hk.run pins s σ H (fun v H1=>∃ S1 ρ1,Go S ρ h H S1 ρ1 h1 H1∧RH W H1 S1 ρ1 h1∧RV W H1 S1 ρ1 x v) I ⟨env,S,ρ,h,x,h1,re,R,ea,fun S1 ρ1 H1 v1 g1 R1 r1=>⟨S1,ρ1,g1,R1,r1⟩⟩) fun u s1 ⟨x1,H1,I1,rx,S1,ρ1,g1,R1,r1⟩=>?_)
 refine thn (hv.run pins s1 σ H1 (fun v H2=>∃ S2 ρ2,Go S1 ρ1 h1 H1 S2 ρ2 h2 H2∧RH W H2 S2 ρ2 h2∧RV W H2 S2 ρ2 y v) I1 ⟨env,S1,ρ1,h1,y,h2,re.go g1 R,R1,eb,fun S2 ρ2 H2 v2 g2 R2 r2=>⟨S2,ρ2,g2,R2,r2⟩⟩) fun w2 s2 ⟨y1,H2,I2,ry,S2,ρ2,g2,R2,r2⟩=>?_
 refine thn (hr.run pins s2 σ H2 (fun ws H3=>Q ((x1,y1) :: ws) H3) I2 ⟨env,S2,ρ2,h2,qs,_,re.go (g1.trans g2) R,R2,ec,fun S3 ρ3 H3 ws g3 R3 r3=>wq _ _ _ _ ((g1.trans g2).trans g3) R3 (.cons (r1.go (g2.trans g3) R1) (r2.go g3 R2) r3)⟩) fun ws s3 ⟨ps,H3,I3,rel,q3⟩=>⟨(x1,y1) :: ps,H3,I3,.cons ⟨rx,ry⟩ rel,q3⟩
theorem jk {pins:List (Addr×Obj)} {σ:L2.St} {s:Shared} {a:Addr} {t:Bool} {kvs:List (D×D)} {k e:D} {y z:L2.V} {u w:Value} {ho:L2.HO} {E:Value→Shared→Prop} {Q:Unit→Shared→Prop} (xw:XW W X) (I:Inv X pins σ H s) (R:RH W H S ρ h) (ea:H a=some ho)
  (ro:RO W H S ρ a (.dic t kvs) ho) (ns:¬ S a) (nl:¬ bo ρ h a) (hk:aR t k=true) (hl:kvs.length < sizeLine) (Rk:RV W H S ρ k y) (Re:RV W H S ρ e z) (ry:RelV y u) (rz:RelV z w)
  (hq:∀ ho' s',RO W (upd H a ho') S ρ a (.dic t (bz kvs k e)) ho'→Inv X pins σ (upd H a ho') s'→Q () s'):wpAny (model X.prog X.w) X.A (dictSet a u w) Q E s:=by
 have s2:∀ {ho'},∀ b o,S b→H b=some o→upd H a ho' b=some o:=fun {ho'} b o sb eb=>by
  rw[upd_ne (fun (z:b=a)=>ns (z ▸ sb))];exact eb
 cases ro with
 | @dicK kvs ks rk=>
  obtain⟨kk,hkk,rfl⟩:=dq hk Rk
  obtain⟨hz,hd,vs,rel,dd⟩:=L2.dk_of I.hok ea
  have hlv:kvs.length=vs.length:=by rw[rk.len];exact Paired.length rel
  refine wpAny_dictSet_pairs (knd:=L2.mixKind X.prog X.w) (kvs:=vs) (hsz:=by omega) (L2.kV_is ry) dd fun h' dd' hsb=>?_
  have rk':RKs W H S ρ (bz kvs k e) (putK ks kk z):=rk.put hkk Re
  refine hq (.dK (putK ks kk z)) _ (.dicK (rk'.mono' (fun _ z=>z) s2 fun _ _ e=>e)) (L2.d_write I (by rw[ea];exact True.intro) hsb ?_ (L2.dk_new ?_ hd (rel.put kk rz) dd'))
  ·obtain⟨o,_,_,ho,_⟩:=dd'
   exact⟨o,ho⟩
  ·rw[← rk'.len]
   have:=eY kvs k e
   omega
 | @dicT kvs xs rt=>
  obtain⟨m,hm,dm⟩:=eZ hk
  obtain⟨b,rfl⟩:=bP hk Rk
  cases ry
  obtain⟨dd,hs,hz⟩:=c7 xw I (.inl ea) rt
  have lz:(storedH xs m b w).length≤sizeLine:=by
   rw[← (rt.put hm dm Rk Re rz).len]
   have:=eY kvs k e
   omega
  rw[xw.P,xw.w]
  refine wpAny_dictSet_heap (knd:=nestedKind W.P W.w) (hsz:=hz) (by have:=xw.un;show X.A.units + 8 < cLine;omega) ⟨c9 xw I hm Rk rfl,dm⟩ dd fun h' dd' hsb=>?_
  refine hq (cw W a (storedH xs m b w)) _ (.dicT ((rt.put hm dm Rk Re rz).mono' (fun _ z=>z) s2 fun _ _ e=>e)) (L2.d_write I (by rw[ea];exact True.intro) hsb ?_ (hH (s':={ s with heap:=h' }) hs lz dd' _ _))
  obtain⟨o,_,_,ho,_⟩:=dd'
  exact⟨o,ho⟩
theorem ji {pins:List (Addr×Obj)} {σ:L2.St} {a:Addr} {t:Bool} {E:Value→Shared→Prop} {Q:PUnit→Shared→Prop} {S0:Addr→Prop} {ρ0:aq} {h0:Mm} {H0:HH} (xw:XW W X) (h0a:H0 a=none):
  ∀ (ps:List (D×D)) (ws:List (L2.V×L2.V)) (vs:List (Value×Value)) (kvs kvs':List (D×D)) (H:HH) (ho:L2.HO) (s:Shared),Inv X pins σ H s→Go S0 ρ0 h0 H0 S ρ h H→RH W H S ρ h→H a=some ho→RO W H S ρ a (.dic t kvs) ho→¬ S a→¬ bo ρ h a →
  RPs W H S ρ ps ws→L2.VV ws vs→dj t kvs ps=some kvs'→(∀ H' ho' s',Inv X pins σ H' s'→Go S0 ρ0 h0 H0 S ρ h H'→RH W H' S ρ h→H' a=some ho'→RO W H' S ρ a (.dic t kvs') ho'→Q PUnit.unit s') →
  wpAny (model X.prog X.w) X.A (storeAll a vs) Q E s
 | [],_,_,kvs,kvs',H,ho,s,I,g,R,ea,ro,ns,nl,.nil,.nil,hk,hq=>by
  cases hk
  unfold storeAll
  rw[List.forIn_nil]
  exact wpAny_pure (hq H ho s I g R ea ro)
 | (k,e) :: ps,_,_,kvs,kvs',H,ho,s,I,g,R,ea,ro,ns,nl,.cons (vs:=ws) rk re rp,.cons hr rv,hk,hq=>by
  simp only[dj]at hk
  obtain⟨hc,hk⟩:=aa hk
  rw[Bool.and_eq_true]at hc
  have hz:=Nat.le_of_ble_eq_true hc.2
  unfold storeAll
  rw[List.forIn_cons]
  refine wpAny_bind (wpAny_bind (jk xw I R ea ro ns nl hc.1 (by rw[sizeLine_eq];omega) rk re hr.1 hr.2 fun ho' s' ro' I'=>wpAny_pure ?_))
  exact ji xw h0a ps _ _ (bz kvs k e) kvs' _ ho' s' I' (g.upd h0a) (R.fo ns nl) upd_same ro' ns nl (rp.mono' (fun _ z=>z) (k4 ns) fun _ _ e=>e) rv hk hq
theorem sK {keys:List (Option Expr)} {values:List Expr} {f:Fk} {z t:Bool} (xw:XW W X) (hp:PPsW W X pos keys values f) (hall:keys.all (·.isSome)=true) (hl:keys.length=values.length) (h15:keys.length≤15) (hn:keys=[]→f=fun _ h=>some ([],h)):
  PE X (.Dict keys values pos) (tE W fun env h=>match f env h with
  | some (ps,h1)=>(match dj t [] ps with
   | some kvs=>some (bj z (.dic t kvs) h1)
   | none=>none)
  | none=>none):=by
 refine⟨fun pins s σ H Q I hw=>?_⟩
 obtain⟨env,S,ρ,h,d,h',re,R,hf,wq⟩:=hw
 try dsimp only at hf
 split at hf
 rotate_left
 ·cases hf
 rename_i ps h1 ea
 split at hf
 rotate_left
 ·cases hf
 rename_i kvs ek
 obtain⟨rfl,rfl⟩:=bw hf
 have hfr:=I.hok.fresh (Nat.le_refl s.heap.objs.size)
 obtain⟨ns,nl⟩:=dY R hfr
 -- the new dict, of either kind
 obtain⟨ho,I1,ro1⟩:∃ ho,Inv X pins σ (upd H s.heap.objs.size ho) { s with heap:=s.heap.push { cls:=.type "dict",data:=.dict #[] } }∧∀ S ρ,RO W (upd H s.heap.objs.size ho) S ρ s.heap.objs.size (.dic t []) ho:=by
  cases t with
  | false=>exact⟨.dK [],I.laid (t':=s.toks) (fun _ _ q=>Heap.get?_push_of_some _ q) (Nat.le_refl _) (L2.dk_empty s.heap I.big),fun _ _=>.dicK .nil⟩
  | true=>
   refine⟨cw W s.heap.objs.size [],I.laid (t':=s.toks) (fun _ _ q=>Heap.get?_push_of_some _ q) (Nat.le_refl _) ?_,fun _ _=>.dicT .nil⟩
   have hs:(s.heap.objs.size == sysModules)=false:=beq_eq_false_iff_ne.mpr (Ne.symm (Nat.ne_of_lt I.big))
   refine⟨⟨hs,Nat.zero_le _,_,#[],0,Heap.get?_push_size _ rfl,⟨rfl,rfl,rfl⟩,rfl,rfl,List.nodup_nil⟩,⟨_,Heap.get?_push_size _ rfl⟩,fun h1 h2 q st=>?_⟩
   obtain⟨q1,q2,o',es',ep',q3,q4⟩:=q
   exact⟨q1,q2,o',es',ep',st _ q3,q4⟩
 have R1:RH W (upd H s.heap.objs.size ho) S ρ h:=R.fo ns nl
 have g1:Go S ρ h H S ρ h (upd H s.heap.objs.size ho):=Go.upd .refl hfr
 -- the end, whatever came
 have fin:∀ (S2:Addr→Prop) (ρ2:aq) (H3:HH) (ho3:L2.HO) (s3:Shared),Inv X pins σ H3 s3→Go S ρ h H S2 ρ2 h1 H3→RH W H3 S2 ρ2 h1→H3 s.heap.objs.size=some ho3→RO W H3 S2 ρ2 s.heap.objs.size (.dic t kvs) ho3→¬ S2 s.heap.objs.size→¬ bo ρ2 h1 s.heap.objs.size →
   EP X pins σ Q (.ref s.heap.objs.size) s3:=fun S2 ρ2 H3 ho3 s3 I3 g3 R3 e3 ro3 ns3 nl3=>by
  refine⟨.ref s.heap.objs.size,H3,I3,rfl,?_⟩
  cases z with
  | true=>
   obtain⟨g4,R4⟩:=jW g3 R3 hfr e3 nl3
   have ro4:=ro3.mono' (S':=Sp S2 s.heap.objs.size) (fun _ z=>.inl z) (fun _ _ _ e=>e) (fun _ _ e=>e)
   refine wq _ _ _ _ g4 R4 ?_
   cases ro4 with
   | dicK r=>exact .dicK (.inr rfl) (.inl e3) r
   | dicT r=>exact .dicT (.inr rfl) (.inl e3) r
  | false=>
   obtain⟨g4,R4⟩:=kA g3 R3 hfr e3 ns3 nl3 ro3
   exact wq _ _ _ _ g4 R4 (.ref (by unfold aG;rw[if_pos rfl]))
 by_cases hk0:keys=[]
 ·have hv0:values=[]:=by rw[hk0]at hl;exact List.length_eq_zero_iff.mp hl.symm
  have hf0:=hn hk0
  subst hk0 hv0 hf0
  cases ea
  cases ek
  exact wpAny_Dict_empty (fin S ρ _ ho _ I1 g1 R1 upd_same (ro1 _ _) ns nl)
 ·refine wpAny_Dict_any hall hl hk0 h15 (thn (hp.run pins _ σ _ (fun ws H2=>∃ S2 ρ2,Go S ρ h (upd H s.heap.objs.size ho) S2 ρ2 h1 H2∧RH W H2 S2 ρ2 h1∧RPs W H2 S2 ρ2 ps ws) I1 ⟨env,S,ρ,h,ps,h1,re.fo ns,R1,ea,fun S2 ρ2 H2 ws g2 R2 r2=>⟨S2,ρ2,g2,R2,r2⟩⟩) fun vs s2 ⟨ws,H2,I2,rel,S2,ρ2,g2,R2,r2⟩=>?_)
  obtain⟨e2,ns2,nl2⟩:=g2.foreign upd_same ns nl
  have ro2:RO W H2 S2 ρ2 s.heap.objs.size (.dic t []) ho:=(ro1 S ρ).mono' g2.sS (g2.s2 R1) g2.rr
  exact ji xw hfr ps ws vs [] kvs H2 ho s2 I2 (g1.trans g2) R2 e2 ro2 ns2 nl2 r2 rel ek fun H3 ho3 s3 I3 g3 R3 e3 ro3=>fin S2 ρ2 H3 ho3 s3 I3 g3 R3 e3 ro3 ns2 nl2
end
open L2 (upd upd_same upd_ne ne_of ne_of_none Cx VK OpR SqL SqT Key kV Inv valV putK RelV HOk ObjOk IxR SlR TruR PSet PGet CallR MtR EP PE PT PA PW TE TT TA PO thn CX0 pass0 Room FnOk Gl Binds Cls Meth Mk PG PGs TG TGs PI TI Turn FpOk)
theorem k9 {v:Value} {o:Obj} {H:Heap→Prop} (B:Begins v o H):
  Meets (Builtin.«enumerate.__new__» ⟨[.type "enumerate",v],[]⟩) (fun _ R s=>H s.heap ∧
   R (.ok (.ret (.ref (s.heap.push o).objs.size))) { s with heap:=(s.heap.push o).push { cls:=.type "enumerate",data:=.fields #[.none,.bool false,.ref s.heap.objs.size,rawInt 0,.none,.none] } }):=
 .of_wp fun prog w A R s h=>by
  obtain⟨hp,g,d,tk,os⟩:=s;obtain⟨h1,h⟩:=h
  have hsub:=sub_enumerate
  have q1:∀ {A':Around} {E:Value→Shared→Prop} {Q:Value→Shared→Prop},Q (.ref hp.objs.size) ⟨hp.push o,g,d,tk,os⟩→wpAny (model prog w) A' (pyIter v) Q E ⟨hp,g,d,tk,os⟩:=
   fun q=>B.iter prog w _ _ ⟨hp,g,d,tk,os⟩ _ h1 q
  wp_walk using q1
  refine wpAny_stack_any fun st=>wpAny_pure ?_
  split
  ·rename_i c _ _ _ _ _
   cases (c == Value.type "enumerate")
   ·wp_walk using q1
    exact⟨_,rfl,h⟩
   ·wp_walk using q1
    exact⟨_,rfl,h⟩
  ·wp_walk using q1
   exact⟨_,rfl,h⟩
section
variable {prog:Program} {w:World} {A:Around} {E:Value→Shared→Prop} {s:Shared}
theorem kR {v:Value} {o:Obj} {H:Heap→Prop} {Q:Value→Shared→Prop} (B:Begins v o H) (h1:H s.heap)
  (h:∀ h',IsEnum h' (s.heap.objs.size + 1) s.heap.objs.size 0 .none→h'.get? s.heap.objs.size=some o→h'.objs.size=s.heap.objs.size + 2 →
   (∀ b o,s.heap.get? b=some o→h'.get? b=some o)→Q (.ref (s.heap.objs.size + 1)) { s with heap:=h' }):
  wpAny (model prog w) A (PySem.call (.type "enumerate") [v]) Q E s:=by
 refine callType_new F.called_enumerate (by decide) (F.typeCall_enumerate_1 _) (F.newCall_enumerate_1 _) (fun obj=>F.args_object_init_2 obj _) F.entry_enumerate_new
  (k9 B) ⟨h1,?_⟩
 have hz:(s.heap.push o).objs.size=s.heap.objs.size + 1:=Heap.size_push ..
 show _∧_
 rw[hz]
 have he:IsEnum ((s.heap.push o).push { cls:=.type "enumerate",data:=.fields #[.none,.bool false,.ref s.heap.objs.size,rawInt 0,.none,.none] }) (s.heap.objs.size + 1) s.heap.objs.size 0 .none:=by
  have:=Heap.get?_push_size (s.heap.push o) (o:={ cls:=.type "enumerate",data:=.fields #[.none,.bool false,.ref s.heap.objs.size,rawInt 0,.none,.none] }) rfl
  rw[hz]at this;exact this
 refine⟨⟨_,he,rfl⟩,h _ he (Heap.get?_push_of_some _ (Heap.get?_push_size _ B.free)) (by rw[Heap.size_push,hz]) fun b o x=>Heap.get?_push_of_some _ (Heap.get?_push_of_some _ x)⟩
end
def xI (K:PySem.W.Frag) (a:Addr):L2.It:=
 ⟨fun i H=>∃ (xs:List L2.V) (x:L2.V),SqT K H a xs∧xs[i]? = some x,fun i H v H'=>∃ T x,v = .ref T∧H T=none∧H' = upd H T (.tup [.int (i:Nat),x])∧∀ xs,SqT K H a xs→xs[i]? = some x,fun i H=>∃ xs:List L2.V,SqT K H a xs∧xs.length≤i⟩
theorem fW {h:Heap} {a it:Addr} {its:Array Value} {i:Nat} (p:h.IsTuple a its) (q:h.IsTupleIter it a i):a≠it:=by
 rintro rfl
 obtain⟨o,h1,h2,_⟩:=p
 obtain⟨o',h3,h4,_⟩:=q
 rw[h1]at h3;cases h3
 rw[h2]at h4
 exact absurd h4 (by decide)
theorem k7 {h:Heap} {a e it:Addr} {its:Array Value} {i:Int} {old:Value} (p:h.IsTuple a its) (q:IsEnum h e it i old):a≠e:=by
 rintro rfl
 obtain⟨o,h1,h2,_⟩:=p
 have q':h.get? a=some _:=q
 rw[h1]at q';cases q'
 exact absurd h2 (by simp)
theorem mL {P:Program} {w:World} {K:PySem.W.Frag} {elts:List Expr} {kk:Nat} {tpos:Pos} (a e it:Addr):
  Turn P w K (.Tuple elts kk tpos) (xI K a) [e,it] e (fun i h=>(∃ old,IsEnum h e it ((i:Nat):Int) old)∧h.IsTupleIter it a i∧e≠it) where
 mem:=by simp
 obj:=fun i h st b hb=>by
  obtain⟨⟨old,he⟩,⟨o,ho,hc,hd⟩,_⟩:=st
  have e':b=e∨b=it:=by simpa using hb
  rcases e' with z | z
  ·rw[z];exact⟨_,he,fun v q=>nomatch q⟩
  ·rw[z];exact⟨o,ho,fun v q=>by rw[hd]at q;cases q⟩
 keep:=fun i h h' st k=>let ⟨⟨old,he⟩,hi,hne⟩:=st;⟨⟨old,k e (by simp) _ he⟩,hi.at fun o q=>k it (by simp) o q,hne⟩
 item:=by
  intro X hP hw hK hc i pins s σ H E I hf st hg
  subst hP hw hK
  obtain⟨⟨old,he⟩,hit,hne⟩:=st
  obtain⟨xs,x,hq,hx⟩:=hg
  obtain⟨its,rv,p,hz⟩:=I.tuple hq
  have p:s.heap.IsTuple a its.toArray:=p
  obtain⟨u,hu,ru⟩:=rv.get hx
  have hel:e < s.heap.objs.size:=Heap.lt_size he
  have hil:it < s.heap.objs.size:=by obtain⟨_,q,_⟩:=hit;exact Heap.lt_size q
  have ai:=fW p hit
  have ae:=k7 p he
  have D:=Draws.tuple (prog:=X.prog) (w:=X.w) (A:=X.A.in1) (I.ok.hd hc) it a ai its.toArray
  refine wpAny_pyNext_enum_itemD D he ⟨hit,p⟩ (by simpa using (List.getElem?_eq_some_iff.mp hu).1) hne (by simp[hne,Ne.symm ae]) fun y h' tk hy ho hit' hT hsz hk=>?_
  have ey:y=u:=by
   have hy:its.toArray[i]? = some y:=hy
   have:its[i]? = some y:=by simpa using hy
   rw[hu]at this;exact (Option.some.inj this).symm
  subst ey
  refine⟨_,rfl,wpAny_letOwnedTupleGo_enum (s:={ s with heap:=h',toks:=tk + 1 }) ho fun h'' he' sb=>?_⟩
  have hT2:h''.get? s.heap.objs.size=some { cls:=.type "tuple",data:=.seq #[.int i tk,y] }:=(sb.2 _ (Nat.ne_of_gt hel)).trans hT
  have new:ObjOk X.prog X.w (upd H s.heap.objs.size (.tup [.int (i:Nat),x])) h'' s.heap.objs.size (.tup [.int (i:Nat),x]):=
   ⟨by show 2≤sizeLine;decide,[.int i tk,y],.cons ⟨_,rfl⟩ (.cons ru .nil),⟨_,hT2,rfl,_,rfl⟩⟩
  have I1:Inv X pins σ (upd H s.heap.objs.size (.tup [.int (i:Nat),x])) { s with heap:=h'',toks:=tk + 1 }:=
   I.turnedNew (ch:=[e,it]) (fun b ob hb q=>(sb.2 b (fun z=>hb (by simp[z]))).trans (hk b ob (fun z=>hb (by simp[z])) (fun z=>hb (by simp[z])) q)) hf (Nat.le_refl _) new
  refine⟨.ref s.heap.objs.size,_,I1,rfl,⟨_,x,rfl,I.hok.fresh (Nat.le_refl _),rfl,fun ys hy=>by rw[I.tuple_inj hy hq];exact hx⟩,⟨⟨y,?_⟩,hit'.1.at fun o q=>(sb.2 it (Ne.symm hne)).trans q,hne⟩,fun b hb=>?_⟩
  ·have e1:((i + 1:Nat):Int)=(i:Int) + 1:=by omega
   rw[e1];exact he'
  ·have hb':b < s.heap.objs.size:=by
    have e':b=e∨b=it:=by simpa using hb
    rcases e' with z | z
    ·rw[z];exact hel
    ·rw[z];exact hil
   rw[upd_ne (Nat.ne_of_lt hb')]
   exact (hf b hb).1
 done:=by
  intro X hP hw hK hc i pins s σ H E I hf st hg
  subst hP hw hK
  obtain⟨⟨old,he⟩,hit,hne⟩:=st
  obtain⟨xs,hq,hx⟩:=hg
  obtain⟨its,rv,p,hz⟩:=I.tuple hq
  have p:s.heap.IsTuple a its.toArray:=p
  have ai:=fW p hit
  obtain⟨f0,f1,f2,f3,f4,f5⟩:=hf it (by simp)
  have hT:s.TypeIs (.ref e) "enumerate":=⟨_,he,rfl⟩
  unfold pyNext
  refine wpAny_bind (wpAny_attempt (wpAny_callSpecial?_slot (name:=Str.ofString "__next__") hT F.slot_enumerate_next
   (wpAny_call_entry F.slot_enumerate_next hT F.entry_enumerate_next ?_ (F.args_enumerate_next_1 _))))
  show wpAny _ _ (field (.ref e) 2 >>= _) _ _ _
  refine wpAny_bind (wpAny_field he rfl (x:=.ref it) rfl ?_)
  have hl:=rv.length
  refine wpAny_bind (wpAny_nextOf_tuple_end (A:=X.A.in1) (I.ok.hd hc) hit p (by simp;omega) fun h' x he' hx'=>?_)
  obtain⟨o,ho,hc⟩:=hx'
  refine wpAny_bind (wpAny_isInstance (T:="StopIteration") (b:=true) ⟨o,ho,hc⟩ isSubtype_stop ?_)
  exact wpAny_pure ⟨rfl,I.turned (t':=s.toks) (fun b o hb q=>he' b o hb q) f0 f1 f3 f4 f5⟩
 self:=fun A i s Q E st h=>let ⟨⟨_,he⟩,_⟩:=st;wpAny_pyIter_enum he h
def vJ (K:PySem.W.Frag) (ta:TA):TI:=fun σ H R=>ta σ H fun vs H1=>∃ a xs,vs=[.ref a]∧SqT K H1 a xs∧R (xI K a) H1
theorem oX {X:Cx} {e:Expr} {ta:TA} {p pos tpos:Pos} {elts:List Expr} {kk:Nat} (hg:Gl X "enumerate") (hm:X.mg "enumerate" = none) (ha:PA X [e] ta) (hs:starEach [e] X.env=[(false,eval e X.env)]):
  PI X (.Tuple elts kk tpos) (.Call (.Name "enumerate" p) [e] [] pos) (vJ X.K ta):=by
 refine⟨fun pins s σ H R I h=>?_⟩
 refine PyProof.Rows.Call_ (L2.ld_blt I hg hm PyProof.Rows.boot_enumerate (PyProof.Rows.callWith_type1 (thn (ha.run pos pins s σ H _ I h) fun us s1 ⟨vs,H1,I1,r1,q1⟩=>?_) hs rfl))
 obtain⟨a,xs,ex,hq,q⟩:=q1
 subst ex
 cases r1 with
 | cons r rr=>
  cases rr
  cases r
  obtain⟨its,rv,p',hz⟩:=I1.tuple hq
  refine kR (begins_tuple a its.toArray) (show s1.heap.IsTuple a its.toArray from p') fun h' he hit hsz hk=>wpAny_pyIter_enum he ?_
  have I2:Inv X pins σ H1 { s1 with heap:=h' }:=I1.kept (t':=s1.toks) hk
  refine⟨s1.heap.objs.size + 1,[s1.heap.objs.size + 1,s1.heap.objs.size],_,_,H1,rfl,I2,mL a (s1.heap.objs.size + 1) s1.heap.objs.size,⟨⟨.none,he⟩,⟨_,hit,rfl,rfl⟩,Nat.succ_ne_self _⟩,fun b hb=>?_,q⟩
  have e':b=s1.heap.objs.size + 1∨b=s1.heap.objs.size:=by simpa using hb
  have hle:s1.heap.objs.size≤b:=by
   rcases e' with z | z
   ·rw[z];exact Nat.le_add_right _ _
   ·rw[z];exact Nat.le_refl _
  exact I1.fpOk hle (I1.hok.fresh hle)
open L2 (upd upd_same upd_ne ne_of ne_of_none Cx VK OpR SqL SqT Key kV Inv valV putK RelV HOk ObjOk IxR SlR TruR PSet PGet CallR MtR EP PE PT PA PW TE TT TA PO thn CX0 pass0 Room FnOk Gl Binds Cls Meth Mk PG PGs TG TGs PI TI Turn FpOk Loc)
abbrev Ft:=D→Env→Mm→Option (Env×Mm)
abbrev vC:=List D→Env→Mm→Option (Env×Mm)
abbrev sy (W:Wd) (ks:List Nat) (S:Addr→Prop) (ρ:aq) (h:Mm) (H:HH) (σ:L2.St) (env':Env) (h':Mm) (Q:L2.St→HH→Prop):Prop:=
 ∀ S' ρ' H' σ',Go S ρ h H S' ρ' h' H'→RH W H' S' ρ' h'→RE W H' S' ρ' env' σ'→(∀ vs,(∀ i∈ks,i∈vs)→L2.wipe σ' vs=L2.wipe σ vs)→Q σ' H'
def tT (W:Wd) (ks:List Nat) (g:Ft):TG:=fun v σ H Q=>∃ env S ρ h d env' h',RE W H S ρ env σ∧RH W H S ρ h∧RV W H S ρ d v∧g d env h=some (env',h')∧sy W ks S ρ h H σ env' h' Q
def nr (W:Wd) (ks:List Nat) (g:vC):TGs:=fun vs σ H Q=>∃ env S ρ h ds env' h',RE W H S ρ env σ∧RH W H S ρ h∧RVs W H S ρ ds vs∧g ds env h=some (env',h')∧sy W ks S ρ h H σ env' h' Q
section
variable {W:Wd} {X:Cx} {H H':HH} {S S':Addr→Prop} {ρ ρ':aq} {h h':Mm} {pos:Pos}
theorem ki:∀ (env:Env) (i j:Nat) (d e:D),av (ay env i d) j=some e→(i=j∧e=d∧i < env.length)∨(i≠j∧av env j=some e)
 | [],i,j,d,e,q=>by simp[ay,av]at q
 | x :: r,0,0,d,e,q=>by simp[ay,av]at q;exact .inl ⟨rfl,q.symm,Nat.zero_lt_succ _⟩
 | x :: r,0,j + 1,d,e,q=>.inr ⟨by omega,q⟩
 | x :: r,i + 1,0,d,e,q=>.inr ⟨by omega,q⟩
 | x :: r,i + 1,j + 1,d,e,q=>by
  rcases ki r i j d e q with ⟨h1,h2,h3⟩ | ⟨h1,h2⟩
  ·exact .inl ⟨by omega,h2,by simpa using h3⟩
  ·exact .inr ⟨by omega,h2⟩
theorem cD:∀ (env:Env) (i:Nat) (d:D),(ay env i d).length=env.length
 | [],_,_=>rfl
 | _ :: _,0,_=>rfl
 | _ :: r,i + 1,d=>by simp[ay,cD r i d]
theorem RE.set {env σ i d v} (x:RE W H S ρ env σ) (r:RV W H S ρ d v):RE W H S ρ (ay env i d) (σ.set i (some v)):=by
 refine⟨by rw[cD,List.length_set];exact x.len,fun j e q=>?_⟩
 rcases ki env i j d e q with ⟨h1,h2,h3⟩ | ⟨h1,h2⟩
 ·subst h1 h2
  refine⟨v,?_,r⟩
  rw[List.getElem?_set_self (by rw[← x.len];exact h3)]
 ·obtain⟨u,h3,h4⟩:=x.at_ j e h2
  exact⟨u,by rw[List.getElem?_set_ne h1];exact h3,h4⟩
theorem dz (σ:L2.St) (j:Nat):∀ vs:List Nat,(L2.wipe σ vs)[j]? = if j∈vs then (σ[j]?).map (fun _=>none) else σ[j]?
 | []=>by simp[L2.wipe]
 | v :: vs=>by
  unfold L2.wipe
  by_cases e:v=j
  ·subst e
   rw[if_pos (List.mem_cons_self ..),List.getElem?_set]
   simp only[if_true,L2.wipe_length]
   by_cases hl:v < σ.length
   ·simp[hl]
   ·simp[hl]
  ·rw[List.getElem?_set_ne e,dz σ j vs]
   have:(j∈v :: vs)↔(j∈vs):=by simp[Ne.symm e]
   simp only[this]
theorem pB {σ:L2.St} {i:Nat} {o:Option L2.V} {vs:List Nat} (hi:i∈vs):L2.wipe (σ.set i o) vs=L2.wipe σ vs:=by
 apply List.ext_getElem?
 intro j
 rw[dz,dz]
 by_cases e:i=j
 ·subst e
  rw[if_pos hi,if_pos hi]
  by_cases hl:i < σ.length
  ·simp[hl]
  ·simp[hl]
 ·rw[List.getElem?_set_ne e]
theorem p9 {i:Nat} {x:Str} (hN:X.N.Nodup) (hi:X.N[i]? = some x) (hx:Loc X.env.scope x) (hf:X.fn x=true∨X.env.scope.names.lookup x=some .local):PG X (.Name x pos) (tT W [i] fun d env h=>some (ay env i d,h)):=by
 refine⟨fun pins s σ H v u Q I r hw=>(L2.pg_name hN hi hx hf).run pins s σ H v u Q I r ?_⟩
 obtain⟨env,S,ρ,h,d,env',h',re,R,rv,hg,wq⟩:=hw
 cases hg
 exact wq _ _ _ _ .refl R (re.set rv) fun vs hv=>pB (hv i (List.mem_singleton.mpr rfl))
theorem qK:PGs X [] (nr W [] fun ds env h=>match ds with | []=>some (env,h) | _=>none):=by
 refine⟨fun pins s σ H vs us Q I r hw=>L2.pgs_nil.run pins s σ H vs us Q I r ?_⟩
 obtain⟨env,S,ρ,h,ds,env',h',re,R,rv,hg,wq⟩:=hw
 try dsimp only at hg
 split at hg
 ·cases hg
  cases rv
  exact⟨rfl,wq _ _ _ _ .refl R re fun _ _=>rfl⟩
 ·cases hg
theorem bQ {e:Expr} {es:List Expr} {env:PySem.Env} (h:aE e=true):assignEach (e :: es) env=(false,assign e env) :: assignEach es env:=by
 cases e<;>first | rfl | cases h
theorem n9 {e:Expr} {es:List Expr} {ks ls:List Nat} {g:Ft} {gs:vC} (h1:PG X e (tT W ks g)) (h2:PGs X es (nr W ls gs)) (pl:aE e=true):
  PGs X (e :: es) (nr W (ks++ls) fun ds env h=>match ds with
  | d :: ds=>(match g d env h with
   | some (env1,h1)=>gs ds env1 h1
   | none=>none)
  | []=>none):=by
 refine⟨fun pins s σ H vs us Q I r hw=>(L2.pgs_cons h1 h2 (by rw[bQ pl]<;>rfl)).run pins s σ H vs us Q I r ?_⟩
 obtain⟨env,S,ρ,h,ds,env',h',re,R,rv,hg,wq⟩:=hw
 try dsimp only at hg
 split at hg
 rotate_left
 ·cases hg
 cases rv with
 | cons a t=>
  split at hg
  rotate_left
  ·cases hg
  rename_i env1 h1 e1
  refine⟨_,_,rfl,env,S,ρ,h,_,env1,h1,re,R,a,e1,fun S1 ρ1 H1 σ1 g1 R1 re1 w1=>?_⟩
  refine⟨env1,S1,ρ1,h1,_,env',h',re1,R1,t.go g1 R,hg,fun S2 ρ2 H2 σ2 g2 R2 re2 w2=>?_⟩
  exact wq _ _ _ _ (g1.trans g2) R2 re2 fun vs hv=>(w2 vs fun i hi=>hv i (List.mem_append_right _ hi)).trans (w1 vs fun i hi=>hv i (List.mem_append_left _ hi))
theorem dk {env:PySem.Env}:∀ {es:List Expr},aJ es=true→(assignEach es env).length=es.length
 | [],_=>rfl
 | e :: r,h=>by
  simp only[aJ,Bool.and_eq_true]at h
  rw[bQ h.1,List.length_cons,List.length_cons,dk h.2]
theorem db {env:PySem.Env}:∀ {es:List Expr},aJ es=true→(assignEach es env).findIdx? (·.1)=none
 | [],_=>rfl
 | e :: r,h=>by
  simp only[aJ,Bool.and_eq_true]at h
  rw[bQ h.1]
  have:=db (env:=env) h.2
  simp only[List.findIdx?_cons,this]
  rfl
theorem oV {es:List Expr} {k:Nat} {ks:List Nat} {gs:vC} (xw:XW W X) (hs:PGs X es (nr W ks gs)) (pl:aJ es=true) (hlen:∀ ds env h r,gs ds env h=some r→ds.length=es.length):
  PG X (.Tuple es k pos) (tT W ks fun d env h=>match d with
  | .tup xs=>gs xs env h
  | .lst xs=>gs xs env h
  | .ref n=>(match h.get n with
   | some (.lst xs)=>gs xs env h
   | _=>none)
  | _=>none):=by
 refine⟨fun pins s σ H v u Q I r hw=>?_⟩
 obtain⟨env,S,ρ,h,d,env',h',re,R,rv,hg,wq⟩:=hw
 try dsimp only at hg
 split at hg
 ·cases rv with
  | tup t rs=>
   exact (L2.pg_tup xw.calm hs (dk pl) (db pl)).run pins s σ H _ u Q I r ⟨_,_,rfl,t.sq xw.K,by rw[← rs.len];exact hlen _ _ _ _ hg,env,S,ρ,h,_,env',h',re,R,rs,hg,wq⟩
 ·cases rv with
  | lst s1 e1 rs=>
   exact (L2.pg_unl xw.calm hs (dk pl) (db pl)).run pins s σ H _ u Q I r ⟨_,_,rfl,SqL.of e1,by rw[← rs.len];exact hlen _ _ _ _ hg,env,S,ρ,h,_,env',h',re,R,rs,hg,wq⟩
 ·rename_i n
  split at hg
  ·rename_i xs hn
   obtain⟨a,vs,rfl,e1,rs⟩:=bG (d:=.ref n) (h:=h) (xs:=xs) (by simp[listOf,hn]) R rv
   exact (L2.pg_unl xw.calm hs (dk pl) (db pl)).run pins s σ H _ u Q I r ⟨_,_,rfl,SqL.of e1,by rw[← rs.len];exact hlen _ _ _ _ hg,env,S,ρ,h,_,env',h',re,R,rs,hg,wq⟩
  ·cases hg
 ·cases hg
theorem qA {o i:Expr} {fo fi:Fe} (xw:XW W X) (ho:PE X o (tE W fo)) (hi:PE X i (tE W fi)) (pl:aE i=true):
  PG X (.Subscript o i pos) (tT W [] fun d env h=>match fo env h with
  | some (x,h1)=>(match fi env h1 with
   | some (y,h2)=>(match fu x y d h2 with
    | some h3=>some (env,h3)
    | none=>none)
   | none=>none)
  | none=>none):=by
 refine⟨fun pins s σ H v u Q I r hw=>(L2.pg_sub ho hi (vz xw) (fun v=>by cases i<;>first | rfl | cases pl)).run pins s σ H v u Q I r ?_⟩
 obtain⟨env,S,ρ,h,d,env',h',re,R,rv,hg,wq⟩:=hw
 try dsimp only at hg
 split at hg
 rotate_left
 ·cases hg
 rename_i x h1 ea
 split at hg
 rotate_left
 ·cases hg
 rename_i y h2 eb
 split at hg
 rotate_left
 ·cases hg
 rename_i h3 ec
 cases hg
 refine⟨env,S,ρ,h,x,h1,re,R,ea,fun S1 ρ1 H1 v1 g1 R1 r1=>?_⟩
 refine⟨env,S1,ρ1,h1,y,h2,re.go g1 R,R1,eb,fun S2 ρ2 H2 v2 g2 R2 r2=>?_⟩
 have g:=g1.trans g2
 exact⟨S2,ρ2,h2,x,y,d,_,r1.go g2 R1,r2,rv.go g R,R2,ec,fun H3 g3 R3=>wq _ _ _ _ (g.trans g3) R3 (re.go (g.trans g3) R) fun _ _=>rfl⟩
end
def dg (W:Wd) (S:Addr→Prop) (ρ:aq) (h:Mm) (H:HH) (w:Option (Nat×List D)) (xs:List D) (J:L2.It):Prop:=
 ∀ i S2 ρ2 h2 H2,GoW S ρ H S2 ρ2 H2→RH W H2 S2 ρ2 h2→stay h2 w=true →
  (xs.length≤i→J.stop i H2)∧∀ d,xs[i]? = some d→J.go i H2∧∀ v H3,J.yld i H2 v H3→∃ S3,Go S2 ρ2 h2 H2 S3 ρ2 h2 H3∧RH W H3 S3 ρ2 h2∧RV W H3 S3 ρ2 d v
abbrev Fi:=Env→Mm→Option (List D×Option (Nat×List D)×Mm)
def tI (W:Wd) (f:Fi):TI:=fun σ H R=>∃ env S ρ h xs w h',RE W H S ρ env σ∧RH W H S ρ h∧f env h=some (xs,w,h')∧∀ S' ρ' H' J,Go S ρ h H S' ρ' h' H'→RH W H' S' ρ' h'→dg W S' ρ' h' H' w xs J→R J H'
mutual
theorem i3:∀ {a b:D},de a b=true→a=b
 | .non,b,h=>by cases b<;>first | rfl | cases h
 | .bl x,b,h=>by cases b with
  | bl y=>simp[de]at h;rw[h]
  | _=>cases h
 | .int x,b,h=>by cases b with
  | int y=>simp[de]at h;rw[h]
  | _=>cases h
 | .str x,b,h=>by cases b with
  | str y=>simp[de]at h;rw[h]
  | _=>cases h
 | .tup xs,b,h=>by cases b with
  | tup ys=>simp only[de]at h;rw[e7 h]
  | _=>cases h
 | .lst xs,b,h=>by cases b with
  | lst ys=>simp only[de]at h;rw[e7 h]
  | _=>cases h
 | .ref x,b,h=>by cases b with
  | ref y=>simp[de]at h;rw[h]
  | _=>cases h
 | .dic _ _,b,h=>by cases b<;>cases h
 | .frl _,b,h=>by cases b<;>cases h
 | .kd xs,b,h=>by cases b with
  | kd ys=>simp only[de]at h;rw[kJ h]
  | _=>cases h
 | .ins _ _,b,h=>by cases b<;>cases h
 | .fn x,b,h=>by cases b with
  | fn y=>simp[de]at h;rw[h]
  | _=>cases h
theorem kJ:∀ {xs ys:List (Str×D)},jx xs ys=true→xs=ys
 | [],[],_=>rfl
 | [],_ :: _,h=>by cases h
 | _ :: _,[],h=>by cases h
 | (a,x) :: xs,(b,y) :: ys,h=>by
  simp only[jx,Bool.and_eq_true,decide_eq_true_eq]at h
  rw[h.1.1,i3 h.1.2,kJ h.2]
theorem e7:∀ {xs ys:List D},eT xs ys=true→xs=ys
 | [],[],_=>rfl
 | [],_ :: _,h=>by cases h
 | _ :: _,[],h=>by cases h
 | x :: xs,y :: ys,h=>by
  simp only[eT,Bool.and_eq_true]at h
  rw[i3 h.1,e7 h.2]
end
theorem ql {h:Mm} {n:Nat} {xs:List D} (q:stay h (some (n,xs))=true):h.get n=some (.lst xs):=by
 have q:(match h.get n with | some (.lst ys)=>eT ys xs | _=>false)=true:=q
 split at q
 ·rename_i ys g
  rw[e7 q]at g;exact g
 ·cases q
section
variable {W:Wd} {X:Cx} {H H':HH} {S S':Addr→Prop} {ρ ρ':aq} {h h':Mm} {pos:Pos} {tg:Expr}
theorem bF:∀ {xs:List D} {vs:List L2.V} {i:Nat} {d:D},RVs W H S ρ xs vs→xs[i]? = some d→∃ v,vs[i]? = some v∧RV W H S ρ d v
 | _,_,_,_,.nil,e=>by simp at e
 | _,_,0,_,.cons a _,e=>by simp at e;subst e;exact⟨_,rfl,a⟩
 | _,_,i + 1,_,.cons _ t,e=>by
  obtain⟨v,h1,h2⟩:=bF (i:=i) t (by simpa using e)
  exact⟨v,by simpa using h1,h2⟩
theorem fE {d:D} {xs:List D} {w v} (hw:fg h d=some (xs,w)) (R:RH W H S ρ h) (r:RV W H S ρ d v):∃ a,v = .ref a ∧
  ((∃ vs,H a=some (.lst vs))∧(∀ S2 ρ2 h2 H2,GoW S ρ H S2 ρ2 H2→RH W H2 S2 ρ2 h2→stay h2 w=true→∃ vs,H2 a=some (.lst vs)∧RVs W H2 S2 ρ2 xs vs)
  ∨ (∃ ys,d = .tup ys)∧(∃ vs,RT W H S a vs)∧w=none∧∀ S2 ρ2 h2 H2,GoW S ρ H S2 ρ2 H2→RH W H2 S2 ρ2 h2→∃ vs,RT W H2 S2 a vs∧RVs W H2 S2 ρ2 xs vs):=by
 cases d with
 | tup ys=>
  cases hw
  cases r with
  | tup t r=>exact⟨_,rfl,.inr ⟨⟨_,rfl⟩,⟨_,t⟩,rfl,fun S2 ρ2 h2 H2 g R2=>⟨_,t.mono g.sS g.s2,r.gow g⟩⟩⟩
 | lst ys=>
  cases hw
  cases r with
  | lst s e r=>exact⟨_,rfl,.inl ⟨⟨_,e⟩,fun S2 ρ2 h2 H2 g R2 _=>⟨_,g.s2 _ _ s e,r.gow g⟩⟩⟩
 | ref n=>
  cases r with
  | @ref _ a q=>
   have hw:(match h.get n with | some (.lst xs)=>some (xs,some (n,xs)) | _=>none)=some (xs,w):=hw
   split at hw
   ·rename_i ys g
    cases hw
    obtain⟨a',ho,q',ea,_,ro⟩:=R.lv _ _ g
    rw[q]at q';cases q'
    cases ro with
    | lst r=>
     refine⟨a,rfl,.inl ⟨⟨_,ea⟩,fun S2 ρ2 h2 H2 g2 R2 st=>?_⟩⟩
     obtain⟨a2,ho2,q2,ea2,_,ro2⟩:=R2.lv _ _ (ql st)
     rw[g2.rr _ _ q]at q2;cases q2
     cases ro2 with
     | lst r2=>exact⟨_,ea2,r2⟩
   ·cases hw
 | _=>cases hw
theorem vn {S ρ h H x}:dg W S ρ h H none (iX x) (L2.Its x):=fun i S2 ρ2 h2 H2 g R st=>by
 have ln:(iX x).length=x.cps.size:=by simp[iX]
 refine⟨fun hl=>by rw[ln]at hl;exact hl,fun d hd=>?_⟩
 obtain⟨c,hc,rfl⟩:∃ c,x.cps[i]? = some c∧d = .str ⟨#[c]⟩:=by
  unfold iX at hd
  rw[List.getElem?_map,Array.getElem?_toList]at hd
  obtain⟨c,h1,h2⟩:=Option.map_eq_some_iff.mp hd
  exact⟨c,h1,h2.symm⟩
 refine⟨(Array.getElem?_eq_some_iff.mp hc).1,fun v H3 y=>?_⟩
 obtain⟨rfl,c',hc',rfl⟩:=y
 rw[hc]at hc';cases hc'
 exact⟨S2,.refl,R,.str _⟩
theorem sN {e:Expr} {fe:Fe} (xw:XW W X) (he:PE X e (tE W fe)):PI X tg e (tI W fun env h=>match fe env h with
  | some (d,h1)=>(match sm h1 d with
   | some (xs,w)=>some (xs,w,h1)
   | none=>none)
  | none=>none):=by
 refine⟨fun pins s σ H R I hw=>?_⟩
 obtain⟨env,S,ρ,h,xs,w,h',re,R0,hf,wq⟩:=hw
 try dsimp only at hf
 split at hf
 rotate_left
 ·cases hf
 rename_i d h1 ea
 split at hf
 rotate_left
 ·cases hf
 rename_i xs' w' ew
 cases hf
 by_cases hstr:∃ x,d = .str x
 ·obtain⟨x,rfl⟩:=hstr
  have ew:some (iX x,none)=some (xs,w):=ew
  cases ew
  refine (L2.pi_str he).run pins s σ H R I ⟨env,S,ρ,h,_,_,re,R0,ea,fun S1 ρ1 H1 v1 g1 R1 r1=>?_⟩
  cases r1
  exact⟨x,rfl,wq S1 ρ1 H1 _ g1 R1 vn⟩
 have ew:fg h' d=some (xs,w):=by
  cases d<;>first | exact ew | exact absurd ⟨_,rfl⟩ hstr
 by_cases ht:∃ ys,d = .tup ys
 ·obtain⟨ys,rfl⟩:=ht
  refine (L2.pi_tup he).run pins s σ H R I ⟨env,S,ρ,h,_,_,re,R0,ea,fun S1 ρ1 H1 v1 g1 R1 r1=>?_⟩
  obtain⟨a,rfl,c | ⟨_,⟨vs,t⟩,rfl,lt⟩⟩:=fE ew R1 r1
  ·obtain⟨⟨vs,e⟩,c⟩:=c
   obtain⟨vs',e',_⟩:=c S1 ρ1 h' H1 .refl R1 (by cases ew;rfl)
   cases r1 with
   | tup t r=>
    refine⟨a,rfl,⟨_,t.sq xw.K⟩,wq S1 ρ1 H1 _ g1 R1 fun i S2 ρ2 h2 H2 g2 R2 st=>?_⟩
    cases ew
    have t2:=t.mono g2.sS g2.s2
    have r2:=r.gow g2
    refine⟨fun hl=>⟨_,t2.sq xw.K,by rw[← r2.len];exact hl⟩,fun d hd=>?_⟩
    obtain⟨v,hv,rv⟩:=bF r2 hd
    exact⟨⟨_,v,t2.sq xw.K,hv⟩,fun x H3 y=>by
     obtain⟨rfl,y⟩:=y
     have:=y _ (t2.sq xw.K)
     rw[hv]at this;cases this
     exact⟨S2,.refl,R2,rv⟩⟩
  ·refine⟨a,rfl,⟨vs,t.sq xw.K⟩,wq S1 ρ1 H1 _ g1 R1 fun i S2 ρ2 h2 H2 g2 R2 st=>?_⟩
   obtain⟨vs2,t2,r2⟩:=lt S2 ρ2 h2 H2 g2 R2
   refine⟨fun hl=>⟨vs2,t2.sq xw.K,by rw[← r2.len];exact hl⟩,fun d hd=>?_⟩
   obtain⟨v,hv,rv⟩:=bF r2 hd
   exact⟨⟨vs2,v,t2.sq xw.K,hv⟩,fun x H3 y=>by
    obtain⟨rfl,y⟩:=y
    have:=y _ (t2.sq xw.K)
    rw[hv]at this;cases this
    exact⟨S2,.refl,R2,rv⟩⟩
 ·refine (L2.pi_list he).run pins s σ H R I ⟨env,S,ρ,h,_,_,re,R0,ea,fun S1 ρ1 H1 v1 g1 R1 r1=>?_⟩
  obtain⟨a,rfl,⟨⟨vs,e⟩,lt⟩ | ⟨z,_⟩⟩:=fE ew R1 r1
  ·refine⟨a,rfl,⟨vs,SqL.of e⟩,wq S1 ρ1 H1 _ g1 R1 fun i S2 ρ2 h2 H2 g2 R2 st=>?_⟩
   obtain⟨vs2,e2,r2⟩:=lt S2 ρ2 h2 H2 g2 R2 st
   refine⟨fun hl=>⟨vs2,SqL.of e2,by rw[← r2.len];exact hl⟩,fun d hd=>?_⟩
   obtain⟨v,hv,rv⟩:=bF r2 hd
   exact⟨⟨vs2,v,SqL.of e2,hv⟩,fun x H3 y=>by
    obtain⟨rfl,y⟩:=y
    have:=y _ (SqL.of e2)
    rw[hv]at this;cases this
    exact⟨S2,.refl,R2,rv⟩⟩
  ·exact absurd z ht
theorem dL:∀ (n:Nat) (lo c:Int),(bq n lo c).length=n
 | 0,_,_=>rfl
 | n + 1,lo,c=>by simp[bq,dL n]
theorem gp:∀ (n:Nat) (lo c:Int) (i:Nat) (d:D),(bq n lo c)[i]? = some d→i < n∧d = .int (lo + i * c)
 | 0,_,_,i,d,e=>by simp[bq]at e
 | n + 1,lo,c,0,d,e=>by simp[bq]at e;subst e;exact⟨Nat.zero_lt_succ _,by simp⟩
 | n + 1,lo,c,i + 1,d,e=>by
  obtain⟨h1,h2⟩:=gp n (lo + c) c i d (by simpa [bq] using e)
  refine⟨by omega,?_⟩
  rw[h2,Int.natCast_succ,Int.add_mul,Int.one_mul]
  congr 1
  omega
theorem fj {i:Int} (h:eA i=true):-(2 ^ 62)≤i∧i < 2 ^ 62:=by simpa [eA] using h
theorem ou {S ρ h H lo n}:dg W S ρ h H none (bq n lo 1) (L2.Itr lo n):=fun i S2 ρ2 h2 H2 g R st=>by
 refine⟨fun hl=>by rw[dL]at hl;exact hl,fun d hd=>?_⟩
 obtain⟨h1,rfl⟩:=gp _ _ _ _ _ hd
 refine⟨h1,fun v H3 y=>?_⟩
 obtain⟨rfl,rfl⟩:=y
 refine⟨S2,.refl,R,?_⟩
 rw[Int.mul_one]
 exact .int _
theorem tu {S ρ h H lo c n}:dg W S ρ h H none (bq n lo c) (L2.Itc lo c n):=fun i S2 ρ2 h2 H2 g R st=>by
 refine⟨fun hl=>by rw[dL]at hl;exact hl,fun d hd=>?_⟩
 obtain⟨h1,rfl⟩:=gp _ _ _ _ _ hd
 refine⟨h1,fun v H3 y=>?_⟩
 obtain⟨rfl,rfl⟩:=y
 exact⟨S2,.refl,R,.int _⟩
theorem pF {es:List Expr} {fs:Fa} {p:Pos} (hg:Gl X "range") (hm:X.mg "range" = none) (ha:PA X es (bK W fs)) (pl:aJ es=true) (hl:∀ env h vs h1,fs env h=some (vs,h1)→vs.length=es.length):
  PI X tg (.Call (.Name "range" p) es [] pos) (tI W fun env h=>match fs env h with
  | some (vs,h1)=>(match iG vs with
   | some xs=>some (xs,none,h1)
   | none=>none)
  | none=>none):=by
 refine⟨fun pins s σ H R I hw=>?_⟩
 obtain⟨env,S,ρ,h,xs,w,h',re,R0,hf,wq⟩:=hw
 try dsimp only at hf
 split at hf
 rotate_left
 ·cases hf
 rename_i vs h1 ea
 split at hf
 rotate_left
 ·cases hf
 rename_i xs' ex
 cases hf
 have ln:=hl _ _ _ _ ea
 unfold iG at ex
 split at ex
 ·rename_i j
  obtain⟨hc,ex⟩:=aa ex
  cases ex
  obtain⟨c1,c2⟩:=fj hc
  match es,ln with
  | [a],_=>
   simp only[aJ,Bool.and_eq_true]at pl
   refine (L2.pi_range1 hg hm ha (am pl.1)).run pins s σ H R I ⟨env,S,ρ,h,_,_,re,R0,ea,fun S1 ρ1 H1 us g1 R1 r1=>?_⟩
   obtain⟨v,rfl,rv⟩:=bt rfl r1
   cases rv
   exact⟨j,rfl,c1,c2,wq S1 ρ1 H1 _ g1 R1 ou⟩
 ·rename_i i j
  obtain⟨hc,ex⟩:=aa ex
  cases ex
  rw[Bool.and_eq_true]at hc
  obtain⟨c1,c2⟩:=fj hc.1
  obtain⟨c3,c4⟩:=fj hc.2
  match es,ln with
  | [a,b],_=>
   simp only[aJ,Bool.and_eq_true]at pl
   refine (L2.pi_range2 hg hm ha (by rw[am pl.1,am pl.2.1]<;>rfl) (am pl.2.1)).run pins s σ H R I ⟨env,S,ρ,h,_,_,re,R0,ea,fun S1 ρ1 H1 us g1 R1 r1=>?_⟩
   cases r1 with
   | cons a t=>cases t with
    | cons b t=>
     cases t;cases a;cases b
     exact⟨i,j,rfl,⟨c1,c2,c3,c4⟩,wq S1 ρ1 H1 _ g1 R1 ou⟩
 ·rename_i i j c
  obtain⟨hc,ex⟩:=aa ex
  cases ex
  simp only[Bool.and_eq_true,decide_eq_true_eq]at hc
  obtain⟨⟨hc1,hc2⟩,rfl⟩:=hc
  obtain⟨c1,c2⟩:=fj hc1
  obtain⟨c3,c4⟩:=fj hc2
  match es,ln with
  | [a,b,c],_=>
   simp only[aJ,Bool.and_eq_true]at pl
   refine (L2.pi_range3 hg hm ha (am pl.1) (aV (by simp[aJ,pl.2.1,pl.2.2.1]))).run pins s σ H R I ⟨env,S,ρ,h,_,_,re,R0,ea,fun S1 ρ1 H1 us g1 R1 r1=>?_⟩
   cases r1 with
   | cons a t=>cases t with
    | cons b t=>cases t with
     | cons c t=>
      cases t;cases a;cases b;cases c
      exact⟨i,j,-1,_,rfl,L2.RgC.neg c1 c2 c3 c4,wq S1 ρ1 H1 _ g1 R1 tu⟩
 ·cases ex
end
structure Feed (prog:Program) (w:World) (i l:Addr) (f:Nat→Option Value) (P:Nat→Heap→Prop):Prop where
 mv:∀ {k:Nat} {h h':Heap},P k h→(∀ c,c=i∨c=l→∀ o,h.get? c=some o→h'.get? c=some o)→P k h'
 nxt:∀ {A:Around} {E:Value→Shared→Prop} {s:Shared} {k:Nat} {x:Value} {Q:Value→Shared→Prop},P k s.heap→f k=some x →
  (∀ g,P (k + 1) g→Heap.SameBut i s.heap g→Q x { s with heap:=g })→wpAny (model prog w) A (Builtin.SmallTypes.nextOf (.ref i)) Q E s
 stp:∀ {A:Around} {E:Value→Shared→Prop} {s:Shared} {k:Nat} {Q:Value→Shared→Prop},A.handled=none→P k s.heap→f k=none →
  (∀ g e,Heap.ExtBut i s.heap g→(∃ o,g.get? e=some o∧o.cls = .type "StopIteration")→E (.ref e) { s with heap:=g })→wpAny (model prog w) A (Builtin.SmallTypes.nextOf (.ref i)) Q E s
def qJ (i l:Addr) (xs:Array Value) (k:Nat) (h:Heap):Prop:=h.IsListIter i l k∧h.IsList l xs
def qw (i l:Addr) (xs:Array Value) (k:Nat) (h:Heap):Prop:=h.IsTupleIter i l k∧h.IsTuple l xs
theorem jY {prog:Program} {w:World} {i l:Addr} {xs:Array Value} (d:l≠i):Feed prog w i l (fun k=>xs[k]?) (qJ i l xs) where
 mv p m:=⟨p.1.at fun o q=>m i (.inl rfl) o q,p.2.at fun o q=>m l (.inr rfl) o q⟩
 nxt p e q:=wpAny_nextOf_list_item p.1 p.2 e fun g p1 sb=>q g ⟨p1,p.2.extBut sb.extBut d⟩ sb
 stp hh p e q:=wpAny_nextOf_list_end hh p.1 p.2 e q
theorem k6 {prog:Program} {w:World} {i l:Addr} {xs:Array Value} (d:l≠i):Feed prog w i l (fun k=>xs[k]?) (qw i l xs) where
 mv p m:=⟨p.1.at fun o q=>m i (.inl rfl) o q,p.2.at fun o q=>m l (.inr rfl) o q⟩
 nxt p e q:=RZ.nextOf_tuple_item p.1 p.2 e fun g p1 sb=>q g ⟨p1,p.2.extBut sb.extBut d⟩ sb
 stp hh p e q:=RZ.nextOf_tuple_end hh p.1 p.2 e q
def cr (ch:List Addr) (h g:Heap):Prop:=∀ c o,c∉ch→h.get? c=some o→g.get? c=some o
theorem cr.one {b:Addr} {ch:List Addr} {h g:Heap} (e:Heap.ExtBut b h g) (m:b∈ch):cr ch h g:=fun c o n q=>e c o (fun z=>n (z ▸ m)) q
theorem cr.trans {ch:List Addr} {h g k:Heap} (a:cr ch h g) (b:cr ch g k):cr ch h k:=fun c o n q=>b c o n (a c o n q)
section
variable {prog:Program} {w:World} {A:Around} {E:Value→Shared→Prop} {s:Shared} {z TI TO i1 i2 l1 l2:Addr} {f1 f2:Nat→Option Value} {P1 P2:Nat→Heap→Prop} {k1 k2:Nat} {a b:Value}
theorem Feed.by {i l:Addr} {f:Nat→Option Value} {P:Nat→Heap→Prop} (F:Feed prog w i l f P) {k:Nat} {h g:Heap} {c:Addr} (p:P k h) (e:Heap.ExtBut c h g) (n1:i≠c) (n2:l≠c):P k g:=
 F.mv p fun d hd o q=>e d o (by rcases hd with rfl | rfl<;>assumption) q
theorem sR {x y:Value} {Q:Value→Shared→Prop} (D:ZipApart z TI TO i1 i2 l1 l2) (F1:Feed prog w i1 l1 f1 P1) (F2:Feed prog w i2 l2 f2 P2)
  (zz:IsZip s.heap z TI TO .none) (ti:IsPair s.heap TI (.ref i1) (.ref i2)) (tt:IsPair s.heap TO a b) (p1:P1 k1 s.heap) (p2:P2 k2 s.heap) (ex:f1 k1=some x) (ey:f2 k2=some y)
  (q:∀ g,IsZip g z TI TO (rawInt s.heap.objs.size)→IsPair g TO x y→P1 (k1 + 1) g→P2 (k2 + 1) g→IsPair g s.heap.objs.size x y→cr [z,TO,i1,i2] s.heap g→Q (.ref s.heap.objs.size) { s with heap:=g }):
  wpAny (model prog w) A (Builtin.«zip.__next__» ⟨[.ref z],[]⟩) (fun r s1=>∃ v,r = .done (.ret v)∧Q v s1) E s:=by
 show wpAny _ _ (field (.ref z) 2 >>= _) _ _ _
 apply wpAny_bind;apply wpAny_field zz rfl (x:=.bool false) rfl
 show wpAny _ _ (field (.ref z) 3 >>= _) _ _ _
 apply wpAny_bind;apply wpAny_field zz rfl (x:=.ref TI) rfl
 apply wpAny_bind;apply wpAny_seqItems ti rfl
 show wpAny _ _ (Builtin.SmallTypes.ownedTupleIsFree (.ref z) >>= _) _ _ _
 apply wpAny_bind;unfold Builtin.SmallTypes.ownedTupleIsFree
 apply wpAny_bind;apply wpAny_field zz rfl (x:=.none) rfl;apply wpAny_pure
 rw[if_pos rfl]
 apply wpAny_bind;apply wpAny_rule
 apply wpAny_bind;apply wpAny_field zz rfl (x:=.ref TO) rfl
 apply wpAny_bind
 refine wpAny_setField_rec zz (by simp) fun g1 z1 b1=>?_
 have z1:IsZip g1 z TI TO .ellipsis:=z1
 have q1:=F1.by p1 b1.extBut D.i1z D.l1z
 have r1:=F2.by p2 b1.extBut D.i2z D.l2z
 have t1:=b1.extBut _ _ D.TOz tt
 apply wpAny_bind
 simp only[List.zipIdx_cons,List.zipIdx_nil,List.forIn_cons,List.forIn_nil]
 apply wpAny_bind;apply wpAny_bind;apply wpAny_onRaise
 show wpAny _ _ (Builtin.SmallTypes.nextOf (.ref i1) >>= _) _ _ _
 apply wpAny_bind
 refine F1.nxt q1 ex fun g2 q2 b2=>?_
 apply wpAny_pure
 have r2:=F2.by r1 b2.extBut D.i12.symm D.l2i1
 have t2:=b2.extBut _ _ D.TOi1 t1
 apply wpAny_bind;apply wpAny_seqItems t2 rfl
 apply wpAny_bind
 refine wpAny_updateSeq_pair t2 fun g3 t3 b3=>?_
 have t3:IsPair g3 TO x b:=t3
 have q3:=F1.by q2 b3.extBut D.TOi1.symm D.l1TO
 have r3:=F2.by r2 b3.extBut D.TOi2.symm D.l2TO
 apply wpAny_bind;apply wpAny_letGo;apply wpAny_pure
 apply wpAny_bind;apply wpAny_bind;apply wpAny_onRaise
 show wpAny _ _ (Builtin.SmallTypes.nextOf (.ref i2) >>= _) _ _ _
 apply wpAny_bind
 refine F2.nxt r3 ey fun g4 r4 b4=>?_
 apply wpAny_pure
 have q4:=F1.by q3 b4.extBut D.i12 D.l1i2
 have t4:=b4.extBut _ _ D.TOi2 t3
 apply wpAny_bind;apply wpAny_seqItems t4 rfl
 apply wpAny_bind
 refine wpAny_updateSeq_pair t4 fun g5 t5 b5=>?_
 have t5:IsPair g5 TO x y:=t5
 have q5:=F1.by q4 b5.extBut D.TOi1.symm D.l1TO
 have r5:=F2.by r4 b5.extBut D.TOi2.symm D.l2TO
 apply wpAny_bind;apply wpAny_letGo;apply wpAny_pure;apply wpAny_pure
 apply wpAny_bind;apply wpAny_seqItems t5 rfl
 apply wpAny_bind;refine wpAny_newTuple ?_
 have sz:g5.objs.size=s.heap.objs.size:=by rw[b5.1,b4.1,b3.1,b2.1,b1.1]
 have st:cr [z,TO,i1,i2] s.heap g5:=((((cr.one b1.extBut (by simp)).trans (.one b2.extBut (by simp))).trans (.one b3.extBut (by simp))).trans (.one b4.extBut (by simp))).trans (.one b5.extBut (by simp))
 have z5:IsZip g5 z TI TO .ellipsis:=(((cr.one (ch:=[TO,i1,i2]) b2.extBut (by simp)).trans (.one b3.extBut (by simp))).trans (.one b4.extBut (by simp))).trans (.one b5.extBut (by simp)) _ _ (by simp[D.TOz.symm,D.i1z.symm,D.i2z.symm]) z1
 have n:g5.objs.size≠z:=Nat.ne_of_gt (Heap.lt_size z5)
 show wpAny _ _ (Builtin.SmallTypes.ownedTupleHandOut (.ref z) (.ref g5.objs.size) >>= _) _ _ _
 apply wpAny_bind;unfold Builtin.SmallTypes.ownedTupleHandOut
 have z6:IsZip (g5.push { cls:=.type "tuple",data:=.seq #[x,y] }) z TI TO .ellipsis:=Heap.get?_push_of_some _ z5
 apply wpAny_bind
 refine wpAny_setField_rec z6 (by simp) fun g7 z7 b7=>?_
 have z7:IsZip g7 z TI TO (rawInt g5.objs.size):=z7
 refine wpAny_setField_rec z7 (by simp) fun g8 z8 b8=>?_
 have z8:IsZip g8 z TI TO (rawInt g5.objs.size):=z8
 have up:Heap.ExtBut z g5 g8:=fun c o c1 e=>b8.extBut _ _ c1 (b7.extBut _ _ c1 (Heap.get?_push_of_some _ e))
 have T8:IsPair g8 g5.objs.size x y:=b8.extBut _ _ n (b7.extBut _ _ n (Heap.get?_push_size _ rfl))
 apply wpAny_pure
 refine⟨_,rfl,?_⟩
 rw[sz]at z8 T8
 show Q (.ref g5.objs.size) _
 rw[sz]
 exact q g8 z8 (up _ _ D.TOz t5) (F1.by q5 up D.i1z D.l1z) (F2.by r5 up D.i2z D.l2z) T8 (st.trans (.one up (by simp)))
theorem wc {Q:Fin→Shared→Prop} (hh:A.handled=none) (D:ZipApart z TI TO i1 i2 l1 l2) (F1:Feed prog w i1 l1 f1 P1) (F2:Feed prog w i2 l2 f2 P2)
  (zz:IsZip s.heap z TI TO .none) (ti:IsPair s.heap TI (.ref i1) (.ref i2)) (tt:IsPair s.heap TO a b) (p1:P1 k1 s.heap) (p2:P2 k2 s.heap) (no:f1 k1=none∨f2 k2=none)
  (q:∀ g e,cr [z,TO,i1,i2] s.heap g→(∃ o,g.get? e=some o∧o.cls = .type "StopIteration")→E (.ref e) { s with heap:=g }):
  wpAny (model prog w) A (Builtin.«zip.__next__» ⟨[.ref z],[]⟩) Q E s:=by
 show wpAny _ _ (field (.ref z) 2 >>= _) _ _ _
 apply wpAny_bind;apply wpAny_field zz rfl (x:=.bool false) rfl
 show wpAny _ _ (field (.ref z) 3 >>= _) _ _ _
 apply wpAny_bind;apply wpAny_field zz rfl (x:=.ref TI) rfl
 apply wpAny_bind;apply wpAny_seqItems ti rfl
 show wpAny _ _ (Builtin.SmallTypes.ownedTupleIsFree (.ref z) >>= _) _ _ _
 apply wpAny_bind;unfold Builtin.SmallTypes.ownedTupleIsFree
 apply wpAny_bind;apply wpAny_field zz rfl (x:=.none) rfl;apply wpAny_pure
 rw[if_pos rfl]
 apply wpAny_bind;apply wpAny_rule
 apply wpAny_bind;apply wpAny_field zz rfl (x:=.ref TO) rfl
 apply wpAny_bind
 refine wpAny_setField_rec zz (by simp) fun g1 z1 b1=>?_
 have z1:IsZip g1 z TI TO .ellipsis:=z1
 have q1:=F1.by p1 b1.extBut D.i1z D.l1z
 have r1:=F2.by p2 b1.extBut D.i2z D.l2z
 have t1:=b1.extBut _ _ D.TOz tt
 have last:∀ {g:Heap} {e:Addr} {s':Shared},s' = { s with heap:=g }→IsZip g z TI TO .ellipsis→cr [z,TO,i1,i2] s.heap g→(∃ o,g.get? e=some o∧o.cls = .type "StopIteration") →
   wpAny (model prog w) A (setField (.ref z) 0 .none) (fun _ s1=>E (.ref e) s1) E s':=fun {g e s'} es zg st ⟨o,ho,hc⟩=>by
  subst es
  have ne:e≠z:=fun x=>by subst x;rw[show g.get? e=_ from zg]at ho;cases ho;simp at hc
  exact wpAny_setField_rec zg (by simp) fun k _ bk=>q k e (st.trans (.one bk.extBut (by simp))) ⟨o,bk.extBut _ _ ne ho,hc⟩
 apply wpAny_bind
 simp only[List.zipIdx_cons,List.zipIdx_nil,List.forIn_cons,List.forIn_nil]
 apply wpAny_bind;apply wpAny_bind;apply wpAny_onRaise
 show wpAny _ _ (Builtin.SmallTypes.nextOf (.ref i1) >>= _) _ _ _
 apply wpAny_bind
 cases ex:f1 k1 with
 | none=>exact F1.stp hh q1 ex fun g e x he=>last rfl (x _ _ D.i1z.symm z1) ((cr.one b1.extBut (by simp)).trans (.one x (by simp))) he
 | some x=>
  have ey:f2 k2=none:=no.resolve_left (by rw[ex];simp)
  refine F1.nxt q1 ex fun g2 q2 b2=>?_
  apply wpAny_pure
  have r2:=F2.by r1 b2.extBut D.i12.symm D.l2i1
  have t2:=b2.extBut _ _ D.TOi1 t1
  apply wpAny_bind;apply wpAny_seqItems t2 rfl
  apply wpAny_bind
  refine wpAny_updateSeq_pair t2 fun g3 t3 b3=>?_
  have r3:=F2.by r2 b3.extBut D.TOi2.symm D.l2TO
  apply wpAny_bind;apply wpAny_letGo;apply wpAny_pure
  apply wpAny_bind;apply wpAny_bind;apply wpAny_onRaise
  show wpAny _ _ (Builtin.SmallTypes.nextOf (.ref i2) >>= _) _ _ _
  apply wpAny_bind
  exact F2.stp hh r3 ey fun g e x he=>last rfl (x _ _ D.i2z.symm (b3.extBut _ _ D.TOz.symm (b2.extBut _ _ D.i1z.symm z1)))
   ((((cr.one b1.extBut (by simp)).trans (.one b2.extBut (by simp))).trans (.one b3.extBut (by simp))).trans (.one x (by simp))) he
theorem nN {x y:Value} {Q:Option Value→Shared→Prop} (D:ZipApart z TI TO i1 i2 l1 l2) (F1:Feed prog w i1 l1 f1 P1) (F2:Feed prog w i2 l2 f2 P2)
  (zz:IsZip s.heap z TI TO .none) (ti:IsPair s.heap TI (.ref i1) (.ref i2)) (tt:IsPair s.heap TO a b) (p1:P1 k1 s.heap) (p2:P2 k2 s.heap) (ex:f1 k1=some x) (ey:f2 k2=some y)
  (q:∀ g,IsZip g z TI TO (rawInt s.heap.objs.size)→IsPair g TO x y→P1 (k1 + 1) g→P2 (k2 + 1) g→IsPair g s.heap.objs.size x y→cr [z,TO,i1,i2] s.heap g→Q (some (.ref s.heap.objs.size)) { s with heap:=g }):
  wpAny (model prog w) A (pyNext (.ref z)) Q E s:=by
 unfold pyNext
 have ty:s.TypeIs (.ref z) "zip":=⟨_,zz,rfl⟩
 apply wpAny_bind;apply wpAny_attempt
 exact wpAny_callSpecial?_slot (name:=Str.ofString "__next__") ty F.slot_zip_next (wpAny_call_entry F.slot_zip_next ty F.entry_zip_next
  (sR D F1 F2 zz ti tt p1 p2 ex ey fun g a1 a2 a3 a4 a5 a6=>wpAny_pure (q g a1 a2 a3 a4 a5 a6)) (F.args_zip_next_1 _))
theorem qg {Q:Option Value→Shared→Prop} (hh:A.handled=none) (D:ZipApart z TI TO i1 i2 l1 l2) (F1:Feed prog w i1 l1 f1 P1) (F2:Feed prog w i2 l2 f2 P2)
  (zz:IsZip s.heap z TI TO .none) (ti:IsPair s.heap TI (.ref i1) (.ref i2)) (tt:IsPair s.heap TO a b) (p1:P1 k1 s.heap) (p2:P2 k2 s.heap) (no:f1 k1=none∨f2 k2=none)
  (q:∀ g,cr [z,TO,i1,i2] s.heap g→Q none { s with heap:=g }):wpAny (model prog w) A (pyNext (.ref z)) Q E s:=by
 unfold pyNext
 have ty:s.TypeIs (.ref z) "zip":=⟨_,zz,rfl⟩
 apply wpAny_bind;apply wpAny_attempt
 refine wpAny_callSpecial?_slot (name:=Str.ofString "__next__") ty F.slot_zip_next (wpAny_call_entry F.slot_zip_next ty F.entry_zip_next (wc hh D F1 F2 zz ti tt p1 p2 no fun g e st he=>?_) (F.args_zip_next_1 _))
 obtain⟨o,ho,hc⟩:=he
 apply wpAny_bind
 exact wpAny_isInstance (T:="StopIteration") (b:=true) ⟨o,ho,hc⟩ isSubtype_stop (wpAny_pure (q _ st))
def zo (c d:String) (h:Heap) (a b:Addr):Heap:=
 let n:=h.objs.size
 ((((h.push { cls:=.type c,data:=.fields #[.ref a,.int 0 0] }).push { cls:=.type d,data:=.fields #[.ref b,.int 0 0] }).push { cls:=.type "tuple",data:=.seq #[.ref n,.ref (n + 1)] }).push
  { cls:=.type "tuple",data:=.seq #[.none,.none] }).push { cls:=.type "zip",data:=.fields #[.none,.bool false,.bool false,.ref (n + 2),.ref (n + 3)] }
theorem pP (l1 l2:Addr) (xs ys:Array Value):Meets (Builtin.«zip.__new__» ⟨[.type "zip",.ref l1,.ref l2],[]⟩) (fun _ R s=>s.heap.IsList l1 xs∧s.heap.IsTuple l2 ys ∧
  R (.ok (.ret (.ref (s.heap.objs.size + 4)))) { s with heap:=zo "list_iterator" "tuple_iterator" s.heap l1 l2 }):=
 .of_wp fun prog w A R s h=>by
  obtain⟨hp,g,d,tk,os⟩:=s
  obtain⟨p,q,h⟩:=h
  have sub:=sub_zip
  have p0:Heap.IsList (Shared.heap ⟨hp,g,d,tk,os⟩) l1 xs:=p
  have q0:Heap.IsTuple (Shared.heap ⟨hp.push { cls:=.type "list_iterator",data:=.fields #[.ref l1,.int 0 0] },g,d,tk,os⟩) l2 ys:=Heap.IsTuple.push q _
  simp only[zo]at h
  wp_walk using wpAny_pyIter_list p0,wpAny_pyIter_tuple q0
  refine⟨_,rfl,?_⟩
  simpa [Heap.size_push,Builtin.SmallTypes.ownedTupleFields,Nat.add_assoc] using h
theorem mw {xs ys:Array Value} {Q:Value→Shared→Prop} (p:s.heap.IsList l1 xs) (q:s.heap.IsTuple l2 ys)
  (h:∀ g,IsZip g (s.heap.objs.size + 4) (s.heap.objs.size + 2) (s.heap.objs.size + 3) .none→IsPair g (s.heap.objs.size + 2) (.ref s.heap.objs.size) (.ref (s.heap.objs.size + 1)) →
   IsPair g (s.heap.objs.size + 3) .none .none→g.IsListIter s.heap.objs.size l1 0→g.IsTupleIter (s.heap.objs.size + 1) l2 0 →
   (∀ c o,s.heap.get? c=some o→g.get? c=some o)→Q (.ref (s.heap.objs.size + 4)) { s with heap:=g }):
  wpAny (model prog w) A (PySem.call (.type "zip") [.ref l1,.ref l2]) Q E s:=by
 refine callType_new F.called_zip (by decide) (F.typeCall_zip_2 _ _) (F.newCall_zip_2 _ _) (fun obj=>F.args_object_init_3 obj _ _) F.entry_zip_new (pP l1 l2 xs ys) ⟨p,q,?_⟩
 have at_:∀ {k:Heap} {o:Obj} (n:Nat),k.objs.size=n→o.isFreed=false→(k.push o).get? n=some o:=fun n e f=>e ▸ Heap.get?_push_size _ f
 have on:∀ {k:Heap} {o:Obj} {c:Addr} {u:Obj},k.get? c=some u→(k.push o).get? c=some u:=fun e=>Heap.get?_push_of_some _ e
 have g5:(zo "list_iterator" "tuple_iterator" s.heap l1 l2).get? (s.heap.objs.size + 4)=some _:=at_ _ (by simp[Heap.size_push]) rfl
 exact⟨⟨_,g5,rfl⟩,h _ g5 (on (on (at_ _ (by simp[Heap.size_push]) rfl))) (on (at_ _ (by simp[Heap.size_push]) rfl))
  ⟨_,on (on (on (on (at_ _ rfl rfl)))),rfl,rfl⟩ ⟨_,on (on (on (at_ _ (by simp[Heap.size_push]) rfl))),rfl,rfl⟩ fun c o e=>on (on (on (on (on e))))⟩
end
open L2 (upd upd_same upd_ne V SqL SqT Inv Cx Hp ObjOk FpOk Turn It TA PA PI TI Gl RelV)
def w6 (K:PySem.W.Frag) (a b:Addr):L2.It where
 go i H:=∃ (xs ys:List V) (x y:V),(SqL K H a xs∧xs[i]? = some x)∧SqT K H b ys∧ys[i]? = some y
 yld i H v H':=∃ T x y,v = .ref T∧H T=none∧H' = upd H T (.tup [x,y])∧(∀ xs,SqL K H a xs→xs[i]? = some x)∧∀ ys,SqT K H b ys→ys[i]? = some y
 stop i H:=∃ xs ys:List V,SqL K H a xs∧SqT K H b ys∧(xs.length≤i∨ys.length≤i)
structure Zst (z TI TO i1 i2 a b:Addr) (i:Nat) (h:Heap):Prop where
 zz:IsZip h z TI TO .none
 ti:IsPair h TI (.ref i1) (.ref i2)
 tt:∃ x y,IsPair h TO x y
 li:h.IsListIter i1 a i
 tp:h.IsTupleIter i2 b i
theorem Zst.all {z TI TO i1 i2 a b:Addr} {i:Nat} {h:Heap} (t:Zst z TI TO i1 i2 a b i h) (c:Addr) (m:c∈[z,TI,TO,i1,i2]):∃ o,h.get? c=some o∧∀ v,o.data≠.cell v:=by
 obtain⟨o1,e1,_,d1⟩:=t.li
 obtain⟨o2,e2,_,d2⟩:=t.tp
 obtain⟨x,y,e3⟩:=t.tt
 simp only[List.mem_cons,List.not_mem_nil,or_false]at m
 rcases m with rfl | rfl | rfl | rfl | rfl
 ·exact⟨_,t.zz,by intro v q;cases q⟩
 ·exact⟨_,t.ti,by intro v q;cases q⟩
 ·exact⟨_,e3,by intro v q;cases q⟩
 ·exact⟨o1,e1,by intro v q;rw[d1]at q;cases q⟩
 ·exact⟨o2,e2,by intro v q;rw[d2]at q;cases q⟩
theorem mr {P:Program} {w:World} {K:PySem.W.Frag} {elts:List Expr} {kk:Nat} {tpos:Pos} {a b z TI TO i1 i2:Addr} (D:ZipApart z TI TO i1 i2 a b):
  Turn P w K (.Tuple elts kk tpos) (w6 K a b) [z,TI,TO,i1,i2] z (Zst z TI TO i1 i2 a b) where
 mem:=List.mem_cons_self ..
 obj i h st c m:=st.all c m
 keep i h g st k:=by
  obtain⟨x,y,t⟩:=st.tt
  exact⟨k z (by simp) _ st.zz,k TI (by simp) _ st.ti,⟨x,y,k TO (by simp) _ t⟩,st.li.at (k i1 (by simp)),st.tp.at (k i2 (by simp))⟩
 item:=by
  intro X e1 e2 e3 hc i pins s σ H E I fp st go
  subst e1 e2 e3
  obtain⟨xs,ys,x,y,⟨qx,gx⟩,qy,gy⟩:=go
  obtain⟨its,rv,p,_⟩:=I.list qx
  obtain⟨jts,rw',p',_⟩:=I.tuple qy
  obtain⟨u,gu,ru⟩:=rv.get gx
  obtain⟨v,gv,rv'⟩:=rw'.get gy
  obtain⟨x0,y0,t0⟩:=st.tt
  have zl:=Heap.lt_size st.zz
  refine nN D (jY D.l1i1) (k6 D.l2i2) st.zz st.ti t0 (⟨st.li,p.isList⟩:qJ i1 a its.toArray i s.heap) (⟨st.tp,p'⟩:qw i2 b jts.toArray i s.heap) (x:=u) (y:=v) (by simpa using gu) (by simpa using gv) fun g zg tg pg pg' T5 stay=>?_
  refine⟨_,rfl,wpAny_letOwnedTupleGo_zip (s:={ s with heap:=g }) zg fun k zk sb=>?_⟩
  have mv:∀ {c o},c≠z→g.get? c=some o→k.get? c=some o:=fun n q=>(sb.2 _ n).trans q
  have T6:k.get? s.heap.objs.size=some { cls:=.type "tuple",data:=.seq #[u,v] }:=mv (Nat.ne_of_gt zl) T5
  have made:ObjOk X.prog X.w (upd H s.heap.objs.size (.tup [x,y])) k s.heap.objs.size (.tup [x,y]):=⟨show 2≤sizeLine by decide,[u,v],.cons ru (.cons rv' .nil),⟨_,T6,rfl,_,rfl⟩⟩
  have I':Inv X pins σ (upd H s.heap.objs.size (.tup [x,y])) { s with heap:=k }:=
   I.turnedNew (t':=s.toks) (ch:=[z,TI,TO,i1,i2]) (fun c o n q=>mv (fun e=>n (by simp[e])) (stay c o (fun m=>n (by
    simp only[List.mem_cons,List.not_mem_nil,or_false]at m ⊢
    rcases m with m | m | m | m<;>simp[m])) q)) fp (Nat.le_refl _) made
  refine⟨.ref s.heap.objs.size,_,I',rfl,⟨_,x,y,rfl,I.hok.fresh (Nat.le_refl _),rfl,fun l hl=>I.list_inj hl qx ▸ gx,fun l hl=>I.tuple_inj hl qy ▸ gy⟩,⟨zk,mv D.TIz (stay _ _ (by simp[D.TIz,D.TITO,D.TIi1,D.TIi2]) st.ti),⟨u,v,mv D.TOz tg⟩,pg.1.at fun o q=>mv D.i1z q,pg'.1.at fun o q=>mv D.i2z q⟩,fun c m=>?_⟩
  obtain⟨o,ho,_⟩:=st.all c m
  rw[upd_ne (Nat.ne_of_lt (Heap.lt_size ho))]
  exact (fp c m).1
 done:=by
  intro X e1 e2 e3 hc i pins s σ H E I fp st no
  subst e1 e2 e3
  obtain⟨xs,ys,qx,qy,no⟩:=no
  obtain⟨its,rv,p,_⟩:=I.list qx
  obtain⟨jts,rw',p',_⟩:=I.tuple qy
  obtain⟨x0,y0,t0⟩:=st.tt
  have l1:=rv.length
  have l2:=rw'.length
  have no':its.toArray[i]? = none∨jts.toArray[i]? = none:=no.imp (fun q=>by simp;omega) (fun q=>by simp;omega)
  refine qg (I.ok.hd hc) D (jY D.l1i1) (k6 D.l2i2) st.zz st.ti t0 (⟨st.li,p.isList⟩:qJ i1 a its.toArray i s.heap) (⟨st.tp,p'⟩:qw i2 b jts.toArray i s.heap) no' fun g stay=>⟨rfl,?_⟩
  exact I.turnedL (t':=s.toks) (ch:=[z,TI,TO,i1,i2]) (fun c o n q=>stay c o (fun m=>n (by
    simp only[List.mem_cons,List.not_mem_nil,or_false]at m ⊢
    rcases m with m | m | m | m<;>simp[m])) q) fp
 self:=fun A i s Q E st h=>wpAny_pyIter_zip st.zz h
def wR (K:PySem.W.Frag) (ta:TA):TI:=fun σ H R=>ta σ H fun vs H1=>∃ a b,vs=[.ref a,.ref b]∧((∃ xs ys,SqL K H1 a xs∧SqT K H1 b ys)∧R (w6 K a b) H1)
theorem sL {X:Cx} {e e2:Expr} {ta:TA} {p pos tpos:Pos} {elts:List Expr} {kk:Nat} (hg:Gl X "zip") (hm:X.mg "zip" = none) (ha:PA X [e,e2] ta)
  (hs:starEach [e,e2] X.env=(false,eval e X.env) :: starEach [e2] X.env) (hp:(backTo pos (starEach [e2] X.env)).any (·.1)=false):PI X (.Tuple elts kk tpos) (.Call (.Name "zip" p) [e,e2] [] pos) (wR X.K ta):=by
 refine⟨fun pins s σ H R I h=>?_⟩
 have run:=ha.run pos pins s σ H _ I h
 refine PyProof.Rows.Call_ (L2.ld_blt I hg hm PyProof.Rows.boot_zip ?_)
 refine PyProof.Rows.callWith_type1 (L2.thn run ?_) hs hp
 rintro us s1 ⟨vs,H1,I1,r1,a,b,ev,⟨xs,ys,qx,qy⟩,q⟩
 subst ev
 match us,r1 with
 | _,.cons ra (.cons rb .nil)=>
  cases ra
  cases rb
  obtain⟨its,_,p,_⟩:=I1.list qx
  obtain⟨jts,_,p',_⟩:=I1.tuple qy
  obtain⟨o,ho,_⟩:=id p'
  refine mw p.isList (show s1.heap.IsTuple b jts.toArray from p') fun g g1 g2 g3 g4 g5 k=>wpAny_pyIter_zip g1 ?_
  refine⟨s1.heap.objs.size + 4,[s1.heap.objs.size + 4,s1.heap.objs.size + 2,s1.heap.objs.size + 3,s1.heap.objs.size,s1.heap.objs.size + 1],_,_,H1,rfl,I1.kept (t':=s1.toks) k,
   mr (PySem.W.ktu_apart s1.heap.objs.size a b p.lt (Heap.lt_size ho)),⟨g1,g2,⟨_,_,g3⟩,g4,g5⟩,fun c m=>?_,q⟩
  have le:s1.heap.objs.size≤c:=by
   simp only[List.mem_cons,List.not_mem_nil,or_false]at m
   rcases m with rfl | rfl | rfl | rfl | rfl<;>simp
  exact I1.fpOk le (I1.hok.fresh le)
open L2 (upd upd_same upd_ne ne_of ne_of_none Cx VK OpR SqL SqT Key kV Inv valV putK RelV HOk ObjOk IxR SlR TruR PSet PGet CallR MtR EP PE PT PA PW TE TT TA PO thn CX0 pass0 Room FnOk Gl Binds Cls Meth Mk PG PGs TG TGs PI TI Turn FpOk Loc PTs BlkOk)
section
variable {W:Wd} {X:Cx} {H H':HH} {S S':Addr→Prop} {ρ ρ':aq} {h h':Mm} {pos:Pos} {tg:Expr}
theorem gD:∀ (xs:List D) (n:Nat),(eL n xs).length=xs.length
 | [],_=>rfl
 | x :: r,n=>by simp[eL,gD r]
theorem gh:∀ (xs:List D) (n i:Nat) (d:D),(eL n xs)[i]? = some d→∃ x,xs[i]? = some x∧d = .tup [.int ((n + i:Nat):Int),x]
 | [],_,i,d,e=>by simp[eL]at e
 | x :: r,n,0,d,e=>by simp[eL]at e;subst e;exact⟨x,rfl,by simp⟩
 | x :: r,n,i + 1,d,e=>by
  obtain⟨y,h1,h2⟩:=gh r (n + 1) i d (by simpa [eL] using e)
  refine⟨y,by simpa using h1,?_⟩
  rw[h2]
  have:n + 1 + i=n + (i + 1):=by omega
  rw[this]
theorem jI {S2:Addr→Prop} {ρ2:aq} {h2:Mm} {H2:HH} {T:Addr} {i:Int} {d:D} {v:L2.V} (R:RH W H2 S2 ρ2 h2) (hT:H2 T=none) (r:RV W H2 S2 ρ2 d v):
  ∃ S3,Go S2 ρ2 h2 H2 S3 ρ2 h2 (upd H2 T (.tup [.int i,v]))∧RH W (upd H2 T (.tup [.int i,v])) S3 ρ2 h2∧RV W (upd H2 T (.tup [.int i,v])) S3 ρ2 (.tup [.int i,d]) (.ref T):=by
 obtain⟨g,R'⟩:=ff (ho:=.tup [.int i,v]) R hT
 exact⟨_,g,R',.tup (.inl ⟨.inr rfl,upd_same⟩) (.cons (.int _) (.cons (r.go g R) .nil))⟩
theorem qu {e:Expr} {fe:Fe} {elts:List Expr} {kk:Nat} {tpos p:Pos} (xw:XW W X) (hg:Gl X "enumerate") (hm:X.mg "enumerate" = none) (he:PE X e (tE W fe)) (pl:aE e=true):
  PI X (.Tuple elts kk tpos) (.Call (.Name "enumerate" p) [e] [] pos) (tI W fun env h=>match fe env h with
  | some (d,h1)=>(match fg h1 d with
   | some (xs,w)=>some (eL 0 xs,w,h1)
   | none=>none)
  | none=>none):=by
 have ha:PA X [e] (L2.tCons (tE W fe) L2.tNil):=L2.pa_cons he L2.pa_nil (am pl)
 refine⟨fun pins s σ H R I hw=>?_⟩
 obtain⟨env,S,ρ,h,xs,w,h',re,R0,hf,wq⟩:=hw
 try dsimp only at hf
 split at hf
 rotate_left
 ·cases hf
 rename_i d h1 ea
 split at hf
 rotate_left
 ·cases hf
 rename_i xs' w' ew
 cases hf
 by_cases ht:∃ ys,d = .tup ys
 ·refine (L2.PI.run (oX hg hm ha (am pl))) pins s σ H R I ⟨env,S,ρ,h,_,_,re,R0,ea,fun S1 ρ1 H1 v1 g1 R1 r1=>?_⟩
  obtain⟨ys,rfl⟩:=ht
  cases ew
  cases r1 with
  | @tup a vs ys t r=>
   refine⟨a,vs,rfl,t.sq xw.K,wq S1 ρ1 H1 _ g1 R1 fun i S2 ρ2 h2 H2 g2 R2 st=>?_⟩
   have t2:=(t.mono g2.sS g2.s2).sq xw.K
   have r2:=r.gow g2
   refine⟨fun hl=>⟨vs,t2,by rw[gD]at hl;rw[← r2.len];exact hl⟩,fun d hd=>?_⟩
   obtain⟨x,hx,rfl⟩:=gh _ _ _ _ hd
   obtain⟨v,hv,rv⟩:=bF r2 hx
   refine⟨⟨vs,v,t2,hv⟩,fun u H3 y=>?_⟩
   obtain⟨T,x',rfl,hT,rfl,y⟩:=y
   have:=y _ t2
   rw[hv]at this;cases this
   rw[Nat.zero_add]
   exact jI R2 hT rv
 ·refine (L2.pi_enum hg hm ha (am pl)).run pins s σ H R I ⟨env,S,ρ,h,_,_,re,R0,ea,fun S1 ρ1 H1 v1 g1 R1 r1=>?_⟩
  obtain⟨a,rfl,⟨⟨vs,e⟩,lt⟩ | ⟨z,_⟩⟩:=fE ew R1 r1
  ·refine⟨a,vs,rfl,SqL.of e,wq S1 ρ1 H1 _ g1 R1 fun i S2 ρ2 h2 H2 g2 R2 st=>?_⟩
   obtain⟨vs2,e2,r2⟩:=lt S2 ρ2 h2 H2 g2 R2 st
   refine⟨fun hl=>⟨vs2,SqL.of e2,by rw[gD]at hl;rw[← r2.len];exact hl⟩,fun d hd=>?_⟩
   obtain⟨x,hx,rfl⟩:=gh _ _ _ _ hd
   obtain⟨v,hv,rv⟩:=bF r2 hx
   refine⟨⟨vs2,v,SqL.of e2,hv⟩,fun u H3 y=>?_⟩
   obtain⟨T,x',rfl,hT,rfl,y⟩:=y
   have:=y _ (SqL.of e2)
   rw[hv]at this;cases this
   rw[Nat.zero_add]
   exact jI R2 hT rv
  ·exact absurd z ht
theorem eO:∀ (xs ys:List D) (i:Nat),(dB xs ys).length≤i→xs.length≤i∨ys.length≤i
 | [],ys,i,h=>.inl (Nat.zero_le _)
 | x :: xs,[],i,h=>.inr (Nat.zero_le _)
 | x :: xs,y :: ys,i,h=>by
  have h:(dB xs ys).length + 1≤i:=h
  rcases eO xs ys (i - 1) (by omega) with q | q
  ·exact .inl (by rw[List.length_cons];omega)
  ·exact .inr (by rw[List.length_cons];omega)
theorem eS:∀ (xs ys:List D) (i:Nat) (d:D),(dB xs ys)[i]? = some d→∃ x y,xs[i]? = some x∧ys[i]? = some y∧d = .tup [x,y]
 | [],ys,i,d,h=>by simp[dB]at h
 | x :: xs,[],i,d,h=>by simp[dB]at h
 | x :: xs,y :: ys,0,d,h=>by simp[dB]at h;exact⟨x,y,rfl,rfl,h.symm⟩
 | x :: xs,y :: ys,i + 1,d,h=>by
  obtain⟨a,b,h1,h2,h3⟩:=eS xs ys i d (by simpa [dB] using h)
  exact⟨a,b,by simpa using h1,by simpa using h2,h3⟩
theorem fx {S2:Addr→Prop} {ρ2:aq} {h2:Mm} {H2:HH} {T:Addr} {d e:D} {v w:L2.V} (R:RH W H2 S2 ρ2 h2) (hT:H2 T=none) (r:RV W H2 S2 ρ2 d v) (r':RV W H2 S2 ρ2 e w):
  ∃ S3,Go S2 ρ2 h2 H2 S3 ρ2 h2 (upd H2 T (.tup [v,w]))∧RH W (upd H2 T (.tup [v,w])) S3 ρ2 h2∧RV W (upd H2 T (.tup [v,w])) S3 ρ2 (.tup [d,e]) (.ref T):=by
 obtain⟨g,R'⟩:=ff (ho:=.tup [v,w]) R hT
 exact⟨_,g,R',.tup (.inl ⟨.inr rfl,upd_same⟩) (.cons (r.go g R) (.cons (r'.go g R) .nil))⟩
theorem pE {e e2:Expr} {fa fb:Fe} {elts:List Expr} {kk:Nat} {tpos p:Pos} (xw:XW W X) (hg:Gl X "zip") (hm:X.mg "zip" = none) (he:PE X e (tE W fa)) (he2:PE X e2 (tE W fb)) (pl:aE e=true) (pl2:aE e2=true):
  PI X (.Tuple elts kk tpos) (.Call (.Name "zip" p) [e,e2] [] pos) (tI W fun env h=>match fa env h with
  | some (x,h1)=>(match fb env h1 with
   | some (y,h2)=>(match ph x y with
    | some xs=>some (xs,none,h2)
    | none=>none)
   | none=>none)
  | none=>none):=by
 have ha:PA X [e,e2] (L2.tCons (tE W fa) (L2.tCons (tE W fb) L2.tNil)):=L2.pa_cons he (L2.pa_cons he2 L2.pa_nil (am pl2)) (am pl)
 refine⟨fun pins s σ H R I hw=>?_⟩
 obtain⟨env,S,ρ,h,zs,w,h',re,R0,hf,wq⟩:=hw
 try dsimp only at hf
 split at hf
 rotate_left
 ·cases hf
 rename_i x h1 ea
 split at hf
 rotate_left
 ·cases hf
 rename_i y h2 eb
 split at hf
 rotate_left
 ·cases hf
 rename_i xs' ez
 cases hf
 by_cases mx:∃ xs ys,x = .lst xs∧y = .tup ys
 ·obtain⟨xs,ys,rfl,rfl⟩:=mx
  refine (sL hg hm ha (am pl) (aV (by simp[aJ,pl2]))).run pins s σ H R I ⟨env,S,ρ,h,_,_,re,R0,ea,fun S1 ρ1 H1 v1 g1 R1 r1=>?_⟩
  refine⟨env,S1,ρ1,h1,_,_,re.go g1 R0,R1,eb,fun S2 ρ2 H2 v2 g2 R2 r2=>?_⟩
  have r1:=r1.go g2 R1
  cases ez
  match r1,r2 with
  | @RV.lst _ _ _ _ a vs _ s1 e1 q,@RV.tup _ _ _ _ b us _ t' q'=>
   refine⟨a,b,rfl,⟨vs,us,SqL.of e1,t'.sq xw.K⟩,wq S2 ρ2 H2 _ (g1.trans g2) R2 fun i S3 ρ3 h3 H3 g3 R3 st=>?_⟩
   have t3:SqL X.K H3 a vs:=SqL.of (g3.s2 _ _ s1 e1)
   have t3':=(t'.mono g3.sS g3.s2).sq xw.K
   have q3:=q.gow g3
   have q3':=q'.gow g3
   refine⟨fun hl=>⟨vs,us,t3,t3',?_⟩,fun d hd=>?_⟩
   ·rw[← q3.len,← q3'.len];exact eO _ _ _ hl
   ·obtain⟨c,c',hx,hy,rfl⟩:=eS _ _ _ _ hd
    obtain⟨v,hv,rv⟩:=bF q3 hx
    obtain⟨v',hv',rv'⟩:=bF q3' hy
    refine⟨⟨vs,us,v,v',⟨t3,hv⟩,t3',hv'⟩,fun u H4 z=>?_⟩
    obtain⟨T,x1,y1,rfl,hT,rfl,z1,z2⟩:=z
    have z1:=z1 _ t3
    have z2:=z2 _ t3'
    rw[hv]at z1;cases z1
    rw[hv']at z2;cases z2
    exact fx R3 hT rv rv'
 refine (RZ.pi_zipA hg hm ha (am pl) (aV (by simp[aJ,pl2]))).run pins s σ H R I ⟨env,S,ρ,h,_,_,re,R0,ea,fun S1 ρ1 H1 v1 g1 R1 r1=>?_⟩
 refine⟨env,S1,ρ1,h1,_,_,re.go g1 R0,R1,eb,fun S2 ρ2 H2 v2 g2 R2 r2=>?_⟩
 have r1:=r1.go g2 R1
 unfold ph at ez
 split at ez
 ·rename_i xs ys
  cases ez
  cases r1 with
  | @tup a vs _ t q=>
   cases r2 with
   | @tup b us _ t' q'=>
    refine⟨a,b,vs,us,rfl,.inr ⟨t.sq xw.K,t'.sq xw.K,wq S2 ρ2 H2 _ (g1.trans g2) R2 fun i S3 ρ3 h3 H3 g3 R3 st=>?_⟩⟩
    have t3:=(t.mono g3.sS g3.s2).sq xw.K
    have t3':=(t'.mono g3.sS g3.s2).sq xw.K
    have q3:=q.gow g3
    have q3':=q'.gow g3
    refine⟨fun hl=>⟨vs,us,t3,t3',?_⟩,fun d hd=>?_⟩
    ·rw[← q3.len,← q3'.len];exact eO _ _ _ hl
    ·obtain⟨c,c',hx,hy,rfl⟩:=eS _ _ _ _ hd
     obtain⟨v,hv,rv⟩:=bF q3 hx
     obtain⟨v',hv',rv'⟩:=bF q3' hy
     refine⟨⟨vs,us,v,v',t3,t3',hv,hv'⟩,fun u H4 z=>?_⟩
     obtain⟨T,x1,y1,rfl,hT,rfl,z1,z2⟩:=z
     have z1:=z1 _ t3
     have z2:=z2 _ t3'
     rw[hv]at z1;cases z1
     rw[hv']at z2;cases z2
     exact fx R3 hT rv rv'
 ·rename_i xs ys
  cases ez
  cases r1 with
  | @lst a vs _ s1 e1 q=>
   cases r2 with
   | @lst b us _ s2 e2 q'=>
    refine⟨a,b,vs,us,rfl,.inl ⟨SqL.of e1,SqL.of e2,wq S2 ρ2 H2 _ (g1.trans g2) R2 fun i S3 ρ3 h3 H3 g3 R3 st=>?_⟩⟩
    have t3:SqL X.K H3 a vs:=SqL.of (g3.s2 _ _ s1 e1)
    have t3':SqL X.K H3 b us:=SqL.of (g3.s2 _ _ s2 e2)
    have q3:=q.gow g3
    have q3':=q'.gow g3
    refine⟨fun hl=>⟨vs,us,t3,t3',?_⟩,fun d hd=>?_⟩
    ·rw[← q3.len,← q3'.len];exact eO _ _ _ hl
    ·obtain⟨c,c',hx,hy,rfl⟩:=eS _ _ _ _ hd
     obtain⟨v,hv,rv⟩:=bF q3 hx
     obtain⟨v',hv',rv'⟩:=bF q3' hy
     refine⟨⟨vs,us,v,v',t3,t3',hv,hv'⟩,fun u H4 z=>?_⟩
     obtain⟨T,x1,y1,rfl,hT,rfl,z1,z2⟩:=z
     have z1:=z1 _ t3
     have z2:=z2 _ t3'
     rw[hv]at z1;cases z1
     rw[hv']at z2;cases z2
     exact fx R3 hT rv rv'
 ·exact absurd ⟨_,_,rfl,rfl⟩ mx
 ·cases ez
theorem iw:∀ (env:Env) (i:Nat),av env i=(env[i]?).join
 | [],i=>by simp[av]
 | x :: r,0=>by simp[av]
 | x :: r,i + 1=>by simp[av,iw r i]
theorem jf (env:Env):∀ vs:List Nat,(aI env vs).length=env.length
 | []=>rfl
 | v :: vs=>by unfold aI;rw[List.length_set,jf env vs]
theorem jb (env:Env) (j:Nat) (d:D):∀ vs:List Nat,av (aI env vs) j=some d→j∉vs∧av env j=some d
 | [],h=>⟨by simp,h⟩
 | v :: vs,h=>by
  unfold aI at h
  rw[iw]at h
  by_cases e:v=j
  ·subst e
   rw[List.getElem?_set]at h
   simp only[if_true]at h
   split at h<;>simp at h
  ·rw[List.getElem?_set_ne e,← iw]at h
   obtain⟨h1,h2⟩:=jb env j d vs h
   exact⟨by simp[h1,Ne.symm e],h2⟩
theorem RE.wipe {env σ} (x:RE W H S ρ env σ) (vs:List Nat):RE W H S ρ (aI env vs) (L2.wipe σ vs):=by
 refine⟨by rw[jf,L2.wipe_length];exact x.len,fun j d e=>?_⟩
 obtain⟨h1,h2⟩:=jb env j d vs e
 obtain⟨v,h3,h4⟩:=x.at_ j d h2
 exact⟨v,by rw[dz,if_neg h1];exact h3,h4⟩
theorem dS (σ:L2.St) (vs:List Nat):L2.wipe (L2.wipe σ vs) vs=L2.wipe σ vs:=by
 apply List.ext_getElem?
 intro j
 rw[dz,dz]
 split
 ·cases σ[j]?<;>rfl
 ·rfl
theorem bM {α:Type} {xs:List α} {i:Nat} (h:i < xs.length):xs.drop i=xs[i] :: xs.drop (i + 1):=(List.drop_eq_getElem_cons h)
abbrev fO (g:Ft) (fc:Fc) (fe:Fe) (env:Env):D→Mm→Option (Option D×Mm):=fun x h=>match g x env h with
 | some (env2,h2)=>(match fc env2 h2 with
  | some (true,h3)=>(match fe env2 h3 with
   | some (y,h4)=>some (some y,h4)
   | none=>none)
  | some (false,h3)=>some (none,h3)
  | none=>none)
 | none=>none
abbrev mq (z:Bool) (own:List Nat) (fi:Fi) (g:Ft) (fc:Fc) (fe:Fe):Fe:=fun env h=>match fi env h with
 | some (xs,w,h1)=>(match ft (fun h=>stay h w) (fO g fc fe (aI env own)) xs h1 with
  | some (ys,h2)=>bif Nat.ble xs.length most then some (bj z (.lst ys) h2) else none
  | none=>none)
 | none=>none
theorem mi {z:Bool} {own ks:List Nat} {fi:Fi} {g:Ft} {fc:Fc} {fe:Fe} (hks:∀ i∈ks,i∈own) {σ H Q} (hw:tE W (mq z own fi g fc fe) σ H Q):L2.tLc (tI W fi) (tT W ks g) (tC W fc) (tE W fe) own σ H Q:=by
 obtain⟨env,S,ρ,h,d,h',re,R,hf,wq⟩:=hw
 unfold mq at hf
 try dsimp only at hf
 split at hf
 rotate_left
 ·cases hf
 rename_i xs w h1 ea
 split at hf
 rotate_left
 ·cases hf
 rename_i all hE ec
 obtain⟨hz,hf⟩:=aa hf
 obtain⟨rfl,rfl⟩:=bw hf
 have hz:=aK hz
 refine⟨env,S,ρ,h,xs,w,h1,re,R,ea,fun S1 ρ1 H1 J g1 R1 sn Dn hD=>?_⟩
 obtain⟨ns1,nl1⟩:=dY R1 hD
 let Wit:Nat→HH→Prop:=fun i H2=>∃ S2 ρ2 h2 acc done ys,Go S1 ρ1 h1 H1 S2 ρ2 h2 H2∧RH W H2 S2 ρ2 h2∧H2 Dn=some (.lst acc)∧¬ S2 Dn∧¬ bo ρ2 h2 Dn∧RVs W H2 S2 ρ2 done acc∧done.length≤i ∧
  ft (fun h=>stay h w) (fO g fc fe (aI env own)) (xs.drop i) h2=some (ys,hE)∧done++ys=all
 refine⟨fun i m H2=>m=xs.length - i∧i≤xs.length∧Wit i H2,⟨xs.length,rfl,Nat.zero_le _,S1,ρ1,h1,[],[],all,Go.upd .refl hD,R1.fo ns1 nl1,upd_same,ns1,nl1,.nil,Nat.le_refl _,ec,rfl⟩,?_⟩
 rintro i m H2 ⟨rfl,hi,S2,ρ2,h2,acc,done,ys,g2,R2,eD,nsD,nlD,rd,hl,ev,ha⟩
 by_cases hlt:i < xs.length
 ·rw[bM hlt]at ev
  simp only[ft]at ev
  obtain⟨st,ev⟩:=aa ev
  split at ev
  rotate_left
  ·cases ev
  rename_i o h3 et
  split at ev
  rotate_left
  ·cases ev
  rename_i ys' h'' er
  cases ev
  obtain⟨_,sn2⟩:=sn i S2 ρ2 h2 H2 (g2.w R1) R2 st
  obtain⟨go,yl⟩:=sn2 xs[i] (by simp[hlt])
  refine .inr ⟨go,Wit (i + 1),fun H' w'=>⟨xs.length - (i + 1),by omega,rfl,hlt,w'⟩,fun v H3 y=>?_⟩
  obtain⟨S3,g3,R3,r3⟩:=yl v H3 y
  obtain⟨eD3,nsD3,nlD3⟩:=g3.foreign eD nsD nlD
  simp only[fO]at et
  split at et
  rotate_left
  ·cases et
  rename_i env2 h4 eg
  have g13:=g2.trans g3
  have re3:RE W H3 S3 ρ2 env σ:=(re.go g1 R).go g13 R1
  refine⟨aI env own,S3,ρ2,h2,xs[i],env2,h4,re3.wipe own,R3,r3,eg,fun S4 ρ4 H4 σ4 g4 R4 re4 w4=>⟨by rw[w4 own hks,dS],?_⟩⟩
  split at et
  ·rename_i h5 ef
   split at et
   rotate_left
   ·cases et
   rename_i y' h6 eg2
   cases et
   refine⟨env2,S4,ρ4,h4,true,h5,re4,R4,ef,fun S5 ρ5 H5 g5 R5=>?_⟩
   show ite _ _ _
   rw[if_pos rfl]
   refine⟨env2,S5,ρ5,h5,y',_,re4.go g5 R4,R5,eg2,fun S6 ρ6 H6 v6 g6 R6 r6=>?_⟩
   have g36:=(g4.trans g5).trans g6
   obtain⟨eD6,nsD6,nlD6⟩:=g36.foreign eD3 nsD3 nlD3
   have rd6:RVs W H6 S6 ρ6 done acc:=(rd.go g3 R2).go g36 R3
   refine⟨acc,eD6,by rw[← rd.len];omega,S6,ρ6,_,acc++[v6],done++[y'],ys',(g13.trans g36).upd hD,R6.fo nsD6 nlD6,upd_same,nsD6,nlD6,(rd6.append (.cons r6 .nil)).fo nsD6,by simp;omega,er,?_⟩
   rw[← ha];simp
  ·rename_i h5 ef
   cases et
   refine⟨env2,S4,ρ4,h4,false,_,re4,R4,ef,fun S5 ρ5 H5 g5 R5=>?_⟩
   show ite _ _ _
   rw[if_neg Bool.false_ne_true]
   have g35:=g4.trans g5
   obtain⟨eD5,nsD5,nlD5⟩:=g35.foreign eD3 nsD3 nlD3
   exact⟨S5,ρ5,_,acc,done,ys',g13.trans g35,R5,eD5,nsD5,nlD5,(rd.go g3 R2).go g35 R3,by omega,er,ha⟩
  ·cases et
 ·have e:i=xs.length:=by omega
  subst e
  rw[List.drop_length]at ev
  simp only[ft]at ev
  obtain⟨st,ev⟩:=aa ev
  cases ev
  obtain⟨stop,_⟩:=sn xs.length S2 ρ2 _ H2 (g2.w R1) R2 st
  refine .inl ⟨stop (Nat.le_refl _),?_⟩
  rw[List.append_nil]at ha
  subst ha
  cases z with
  | true=>
   obtain⟨g4,R4⟩:=jW g2 R2 hD eD nlD
   exact wq _ _ _ _ (g1.trans g4) R4 (.lst (.inr rfl) eD (rd.mono' (fun _ z=>.inl z) (fun _ _ _ e=>e) fun _ _ e=>e))
  | false=>
   obtain⟨g4,R4⟩:=kA (o:=.lst done) g2 R2 hD eD nsD nlD (.lst rd)
   exact wq _ _ _ _ (g1.trans g4) R4 (.ref (by unfold aG;rw[if_pos rfl]))
end
open L2 (upd upd_same upd_ne ne_of ne_of_none Cx VK OpR SqL SqT Key kV Inv valV putK RelV HOk ObjOk IxR SlR TruR PSet PGet CallR MtR EP PE PT PA PW TE TT TA PO thn CX0 pass0 Room FnOk Gl Binds Cls Meth Mk PG PGs TG TGs PI TI Turn FpOk Loc PTs BlkOk PS PSs Ends TS)
abbrev bR:=Env→Mm→Option (Fl×Env×Mm)
abbrev dT (W:Wd) (S:Addr→Prop) (ρ:aq) (h:Mm) (H:HH) (r:Fl×Env×Mm) (N:Ends):Prop:=
 ∀ S' ρ' H',Go S ρ h H S' ρ' r.2.2 H'→RH W H' S' ρ' r.2.2→match r.1 with
 | .nx=>∀ σ',RE W H' S' ρ' r.2.1 σ'→N.nx σ' H'
 | .bk=>∀ σ',RE W H' S' ρ' r.2.1 σ'→N.bk σ' H'
 | .ct=>∀ σ',RE W H' S' ρ' r.2.1 σ'→N.ct σ' H'
 | .rt d=>∀ v,RV W H' S' ρ' d v→N.rt v H'
def tS (W:Wd) (f:bR):TS:=fun N σ H=>∃ env S ρ h r,RE W H S ρ env σ∧RH W H S ρ h∧f env h=some r∧dT W S ρ h H r N
theorem _root_.L2.PS.sub {X:Cx} {e:Stmt} {t t':TS} (p:PS X e t) (q:∀ N σ H,t' N σ H→t N σ H):PS X e t':=⟨fun pins s σ H N I hw=>p.run pins s σ H N I (q N σ H hw)⟩
theorem _root_.L2.PSs.sub {X:Cx} {e:List Stmt} {t t':TS} (p:PSs X e t) (q:∀ N σ H,t' N σ H→t N σ H):PSs X e t':=⟨fun pins s σ H N I hw=>p.run pins s σ H N I (q N σ H hw)⟩
section
variable {W:Wd} {X:Cx} {H H':HH} {S S':Addr→Prop} {ρ ρ':aq} {h h':Mm} {pos p:Pos} {tg e a b o i:Expr} {fe fa fb fo fi:Fe} {g:Ft} {ks:List Nat}
theorem dT.pre {r N S1 ρ1 h1 H1} (g:Go S ρ h H S1 ρ1 h1 H1) (w:dT W S ρ h H r N):dT W S1 ρ1 h1 H1 r N:=fun S' ρ' H' g' R'=>w S' ρ' H' (g.trans g') R'
theorem dT.nx {env h1 N} (w:dT W S ρ h H (.nx,env,h1) N) {S1 ρ1 H1 σ1} (g:Go S ρ h H S1 ρ1 h1 H1) (R:RH W H1 S1 ρ1 h1) (re:RE W H1 S1 ρ1 env σ1):N.nx σ1 H1:=w S1 ρ1 H1 g R σ1 re
theorem pq {N:Ends} {σ:L2.St} {H:HH} (hw:tS W (fun env h=>match fe env h with
  | some (d,h1)=>(match g d env h1 with
   | some (env1,h2)=>some (.nx,env1,h2)
   | none=>none)
  | none=>none) N σ H):L2.tAsg (tE W fe) (tT W ks g) N σ H:=by
 obtain⟨env,S,ρ,h,r,re,R,hf,wq⟩:=hw
 try dsimp only at hf
 split at hf
 rotate_left
 ·cases hf
 rename_i d h1 ea
 split at hf
 rotate_left
 ·cases hf
 rename_i env1 h2 eg
 cases hf
 refine⟨env,S,ρ,h,d,h1,re,R,ea,fun S1 ρ1 H1 v1 g1 R1 r1=>?_⟩
 exact⟨env,S1,ρ1,h1,d,env1,h2,re.go g1 R,R1,r1,eg,fun S2 ρ2 H2 σ2 g2 R2 re2 _=>wq.nx (g1.trans g2) R2 re2⟩
abbrev kQ (fe:Fe) (g:Ft):bR:=fun env h=>match fe env h with
  | some (d,h1)=>(match g d env h1 with
   | some (env1,h2)=>some (.nx,env1,h2)
   | none=>none)
  | none=>none
theorem iH (he:PE X e (tE W fe)) (hg:PG X tg (tT W ks g)) (hs:swapsWithSole [tg] e pos.line X.env=pure false) (hw:swappedStores [tg] e X.env=pure none) (pl:aE tg=true):
  PS X (.Assign [tg] e pos) (tS W (kQ fe g)):=
 (L2.ps_asg he hg hs hw (by rw[bQ pl]<;>rfl)).sub fun N σ H hw=>pq hw
theorem nU {z:Bool} {n:Nat} {y:Str} {py spos:Pos} {elt iter:Expr} {ifs:List Expr} {scope:Scope} {own:List (Str×Nat)} {fi:Fi} {fc:Fc} (xw:XW W X) (hN:X.N.Nodup) (hy:X.N[n]? = some y) (hyl:X.env.scope.names.lookup y=some .local) (hk:X.env.scope.kind = .function)
  (hl:(py.line == pos.line)=true) (hany:(scope.names.any fun (n,k)=>n == y&&(k == .local||k == .cell))=false) (hi:PI X tg iter (tI W fi)) (ok:BlkOk X.N X.env.scope scope own)
  (hg:∀ (s:Shared) (H:HH) (C:Addr) (cl:List (Str×Addr)) (fp:List Addr),PG (X.blk s H scope (compEnvC scope cl C X.env) fp) tg (tT W ks g)) (ht:∀ (s:Shared) (H:HH) (C:Addr) (cl:List (Str×Addr)) (fp:List Addr),PTs (X.blk s H scope (compEnvC scope cl C X.env) fp) ifs (tC W fc))
  (he:∀ (s:Shared) (H:HH) (C:Addr) (cl:List (Str×Addr)) (fp:List Addr),PE (X.blk s H scope (compEnvC scope cl C X.env) fp) elt (tE W fe)) (pl:aE iter=true) (hks:∀ i∈ks,i∈own.map (·.2)):
  PS X (.Assign [.Name y py] (.ListComp elt [⟨tg,iter,ifs,0⟩] scope pos) spos) (tS W (kQ (mq z (own.map (·.2)) fi g fc fe) fun d env h=>some (ay env n d,h))):=by
 refine (L2.ps_setLc xw.calm hN hy hyl (L2.sw_true hk hyl hl hany) hi ok hg ht he (da pl)).sub fun N σ H hw=>?_
 refine mi (z:=z) hks (Q:=fun x H1=>L2.gName n x σ H1 N.nx) ?_
 obtain⟨env,S,ρ,h,r,re,R,hf,wq⟩:=hw
 unfold kQ at hf
 split at hf
 rotate_left
 ·cases hf
 rename_i d h1 ea
 cases hf
 exact⟨env,S,ρ,h,d,h1,re,R,ea,fun S1 ρ1 H1 v1 g1 R1 r1=>wq.nx g1 R1 ((re.go g1 R).set r1)⟩
theorem tf {n m:Nat} {x y:Str} {px py pt:Pos} {kt k2:Nat} {pt2:Pos} (xw:XW W X) (hN:X.N.Nodup) (hi:X.N[n]? = some x) (hj:X.N[m]? = some y) (hij:n≠m)
  (hx:X.env.scope.names.lookup x=some .local) (hy:X.env.scope.names.lookup y=some .local) (ha:PE X a (tE W fa)) (hb:PE X b (tE W fb)) (pa:aE a=true) (pb:aE b=true)
  (hw:swappedStores [.Tuple [.Name x px,.Name y py] kt pt] (.Tuple [a,b] k2 pt2) X.env=pure (some [x,y])):
  PS X (.Assign [.Tuple [.Name x px,.Name y py] kt pt] (.Tuple [a,b] k2 pt2) pos) (tS W fun env h=>match fa env h with
  | some (x,h1)=>(match fb env h1 with
   | some (y,h2)=>some (.nx,ay (ay env n x) m y,h2)
   | none=>none)
  | none=>none):=by
 refine (L2.ps_par xw.calm hN hi hj hij hx hy (L2.pa_cons ha (L2.pa_cons hb L2.pa_nil (am pb)) (am pa)) hw (fM rfl)).sub fun N σ H hw=>?_
 obtain⟨env,S,ρ,h,r,re,R,hf,wq⟩:=hw
 try dsimp only at hf
 split at hf
 rotate_left
 ·cases hf
 rename_i x h1 ea
 split at hf
 rotate_left
 ·cases hf
 rename_i y h2 eb
 cases hf
 refine⟨env,S,ρ,h,x,h1,re,R,ea,fun S1 ρ1 H1 v1 g1 R1 r1=>?_⟩
 refine⟨env,S1,ρ1,h1,y,_,re.go g1 R,R1,eb,fun S2 ρ2 H2 v2 g2 R2 r2=>?_⟩
 exact⟨v1,v2,rfl,wq.nx (g1.trans g2) R2 (((re.go (g1.trans g2) R).set (r1.go g2 R1)).set r2)⟩
def AI (W:Wd) (o:Op):L2.TIp:=fun x y H Q=>∃ S ρ h i j r h',x = .int i∧y = .int j∧RH W H S ρ h∧cV o false (.int i) (.int j) h=some (r,h')∧aN W S ρ h H r h' Q
theorem Am (o:Op):L2.PIp X (iB o) (AI W o):=by
 rintro pins s σ H x y v u Q I rx ry ⟨S,ρ,h,i,j,r,h',rfl,rfl,R,hf,wq⟩
 cases o with
 | add=>cases hf;exact L2.iop_add pins s σ H _ _ v u Q I rx ry ⟨_,_,rfl,rfl,ad R wq (.int _)⟩
 | sub=>cases hf;exact L2.iop_sub pins s σ H _ _ v u Q I rx ry ⟨_,_,rfl,rfl,ad R wq (.int _)⟩
 | mul=>
  obtain⟨hc,hf⟩:=aa (show (bif cj i||cj j then some (D.int (i * j),h) else none)=some (r,h') from hf)
  cases hf
  refine L2.iop_mul pins s σ H _ _ v u Q I rx ry ⟨_,_,rfl,rfl,?_,ad R wq (.int _)⟩
  rcases Bool.or_eq_true_iff.mp hc with q | q
  ·exact .inl (eB q)
  ·exact .inr (eB q)
 | fdiv=>
  obtain⟨hc,hf⟩:=aa (show (bif decide (0 < j)&&decide (j < 1073741824) then some (D.int (i / j),h) else none)=some (r,h') from hf)
  cases hf
  simp only[Bool.and_eq_true,decide_eq_true_eq]at hc
  exact L2.iop_fdiv pins s σ H _ _ v u Q I rx ry ⟨_,_,rfl,rfl,hc,ad R wq (.int _)⟩
 | mod=>
  obtain⟨hc,hf⟩:=aa (show (bif decide (0 < j) then some (D.int (i % j),h) else none)=some (r,h') from hf)
  cases hf
  simp only[decide_eq_true_eq]at hc
  exact L2.iop_mod pins s σ H _ _ v u Q I rx ry ⟨_,_,rfl,rfl,hc,ad R wq (.int _)⟩
 | pow=>
  obtain⟨hc,hf⟩:=aa (show (bif decide (0≤j)&&decide (j≤1000)&&cj i then some (D.int (i ^ j.toNat),h) else none)=some (r,h') from hf)
  cases hf
  simp only[Bool.and_eq_true,decide_eq_true_eq]at hc
  obtain⟨⟨h1,h2⟩,h3⟩:=hc
  have h4:=eB h3
  obtain⟨t,rfl⟩:=rx
  obtain⟨t',rfl⟩:=ry
  exact PyProof.Rows.ipow_int_small h1 (by omega) (by omega) ⟨.int _,H,I.tok _,⟨_,rfl⟩,ad R wq (.int _)⟩
theorem qm {op:Op} {tpos:Pos} (xw:XW W X) (ho:PE X o (tE W fo)) (hi:PE X i (tE W fi)) (he:PE X e (tE W fe)) (pl:aE i=true):
  PS X (.AugAssign (.Subscript o i tpos) (iB op) e pos) (tS W fun env h=>match fo env h with
  | some (x,h1)=>(match fi env h1 with
   | some (y,h2)=>(match (bif (dictOf h2 x).isSome||(listOf h2 x).isSome then br x y h2 else none) with
    | some v=>(match fe env h2 with
     | some (u,h3)=>(match v,u,cV op false v u h3 with
      | .int _,.int _,some (r,h4)=>(match fu x y r h4 with
       | some h5=>some (.nx,env,h5)
       | none=>none)
      | _,_,_=>none)
     | none=>none)
    | none=>none)
   | none=>none)
  | none=>none):=by
 refine (L2.ps_augS ho hi (yH xw) he (Am (W:=W) op) (vz xw) (fun ov iv new=>by cases i<;>first | rfl | cases pl)).sub fun N σ H hw=>?_
 obtain⟨env,S,ρ,h,r,re,R,hf,wq⟩:=hw
 try dsimp only at hf
 split at hf
 rotate_left
 ·cases hf
 rename_i x h1 ea
 split at hf
 rotate_left
 ·cases hf
 rename_i y h2 eb
 split at hf
 rotate_left
 ·cases hf
 rename_i v ev
 obtain⟨hd,ev⟩:=aa ev
 split at hf
 rotate_left
 ·cases hf
 rename_i u h3 ec
 split at hf
 ·rename_i i j r' h4 ed
  split at hf
  rotate_left
  ·cases hf
  rename_i h5 es
  cases hf
  refine⟨env,S,ρ,h,x,h1,re,R,ea,fun S1 ρ1 H1 v1 g1 R1 r1=>?_⟩
  refine⟨env,S1,ρ1,h1,y,h2,re.go g1 R,R1,eb,fun S2 ρ2 H2 v2 g2 R2 r2=>?_⟩
  refine⟨S2,ρ2,h2,x,y,_,r1.go g2 R1,r2,R2,hd,ev,fun v3 r3=>?_⟩
  cases r3
  have g12:=g1.trans g2
  refine⟨env,S2,ρ2,h2,_,h3,re.go g12 R,R2,ec,fun S3 ρ3 H3 v4 g3 R3 r4=>?_⟩
  cases r4
  refine⟨S3,ρ3,h3,_,_,_,_,rfl,rfl,R3,ed,fun S4 ρ4 H4 v5 g4 R4 r5=>?_⟩
  have g34:=g3.trans g4
  exact⟨S4,ρ4,_,x,y,_,_,(r1.go g2 R1).go g34 R2,r2.go g34 R2,r5,R4,es,fun H5 g5 R5=>wq.nx ((g12.trans g34).trans g5) R5 (re.go ((g12.trans g34).trans g5) R)⟩
 ·cases hf
theorem tZ (he:PE X e (tE W fe)) (pc:jh e=true):PS X (.Expr e pos) (tS W fun env h=>match fe env h with | some (_,h1)=>some (.nx,env,h1) | none=>none):=by
 refine (L2.ps_expr he (eW pc)).sub fun N σ H hw=>?_
 obtain⟨env,S,ρ,h,r,re,R,hf,wq⟩:=hw
 try dsimp only at hf
 split at hf
 ·rename_i d h1 ea
  cases hf
  exact⟨env,S,ρ,h,d,_,re,R,ea,fun S1 ρ1 H1 v1 g1 R1 r1=>wq.nx g1 R1 (re.go g1 R)⟩
 ·cases hf
theorem sQ (he:PE X e (tE W fe)):PS X (.Return (some e) pos) (tS W fun env h=>match fe env h with | some (d,h1)=>some (.rt d,env,h1) | none=>none):=by
 refine (L2.ps_ret he).sub fun N σ H hw=>?_
 obtain⟨env,S,ρ,h,r,re,R,hf,wq⟩:=hw
 try dsimp only at hf
 split at hf
 ·rename_i d h1 ea
  cases hf
  exact⟨env,S,ρ,h,d,_,re,R,ea,fun S1 ρ1 H1 v1 g1 R1 r1=>wq S1 ρ1 H1 g1 R1 v1 r1⟩
 ·cases hf
theorem qB:PS X (.Return none pos) (tS W fun env h=>some (.rt .non,env,h)):=by
 refine L2.ps_retN.sub fun N σ H hw=>?_
 obtain⟨env,S,ρ,h,r,re,R,hf,wq⟩:=hw
 cases hf
 exact wq S ρ H .refl R _ .non
theorem uk:PS X (.Continue pos) (tS W fun env h=>some (.ct,env,h)):=by
 refine L2.ps_continue.sub fun N σ H hw=>?_
 obtain⟨env,S,ρ,h,r,re,R,hf,wq⟩:=hw
 cases hf
 exact wq S ρ H .refl R _ re
theorem l8 {st:Stmt}:PS X st (tS W fun _ _=>none):=by
 refine L2.ps_never.sub fun N σ H hw=>?_
 obtain⟨env,S,ρ,h,r,re,R,hf,wq⟩:=hw
 cases hf
theorem uy {c:Expr} {as bs:List Stmt} {fc:Fc} {fs gs:bR} (hc:PT X c (tC W fc)) (ha:PSs X as (tS W fs)) (hb:PSs X bs (tS W gs)):
  PS X (.If c as bs pos) (tS W fun env h=>match fc env h with | some (true,h1)=>fs env h1 | some (false,h1)=>gs env h1 | none=>none):=by
 refine (L2.ps_if hc ha hb).sub fun N σ H hw=>?_
 obtain⟨env,S,ρ,h,r,re,R,hf,wq⟩:=hw
 try dsimp only at hf
 split at hf
 ·rename_i h1 ec
  refine⟨env,S,ρ,h,true,h1,re,R,ec,fun S1 ρ1 H1 g1 R1=>?_⟩
  show ite _ _ _
  rw[if_pos rfl]
  exact⟨env,S1,ρ1,h1,r,re.go g1 R,R1,hf,wq.pre g1⟩
 ·rename_i h1 ec
  refine⟨env,S,ρ,h,false,h1,re,R,ec,fun S1 ρ1 H1 g1 R1=>?_⟩
  show ite _ _ _
  rw[if_neg Bool.false_ne_true]
  exact⟨env,S1,ρ1,h1,r,re.go g1 R,R1,hf,wq.pre g1⟩
 ·cases hf
theorem qO:PSs X [] (tS W fun env h=>some (.nx,env,h)):=by
 refine L2.pss_nil.sub fun N σ H hw=>?_
 obtain⟨env,S,ρ,h,r,re,R,hf,wq⟩:=hw
 cases hf
 exact wq.nx .refl R re
theorem oI {st:Stmt} {rest:List Stmt} {f gs:bR} (h1:PS X st (tS W f)) (h2:PSs X rest (tS W gs)):PSs X (st :: rest) (tS W fun env h=>match f env h with
  | some (.nx,env1,h1)=>gs env1 h1
  | some (.bk,env1,h1)=>some (.bk,env1,h1)
  | some (.ct,env1,h1)=>some (.ct,env1,h1)
  | some (.rt d,env1,h1)=>some (.rt d,env1,h1)
  | none=>none):=by
 refine (L2.pss_cons h1 h2).sub fun N σ H hw=>?_
 obtain⟨env,S,ρ,h,r,re,R,hf,wq⟩:=hw
 try dsimp only at hf
 split at hf
 ·rename_i env1 h1 e1
  exact⟨env,S,ρ,h,_,re,R,e1,fun S1 ρ1 H1 g1 R1 σ1 re1=>⟨env1,S1,ρ1,h1,r,re1,R1,hf,wq.pre g1⟩⟩
 ·rename_i env1 h1 e1
  cases hf
  exact⟨env,S,ρ,h,_,re,R,e1,fun S1 ρ1 H1 g1 R1 σ1 re1=>wq S1 ρ1 H1 g1 R1 σ1 re1⟩
 ·rename_i env1 h1 e1
  cases hf
  exact⟨env,S,ρ,h,_,re,R,e1,fun S1 ρ1 H1 g1 R1 σ1 re1=>wq S1 ρ1 H1 g1 R1 σ1 re1⟩
 ·rename_i d env1 h1 e1
  cases hf
  exact⟨env,S,ρ,h,_,re,R,e1,fun S1 ρ1 H1 g1 R1 v rv=>wq S1 ρ1 H1 g1 R1 v rv⟩
 ·cases hf
end
section
variable {W:Wd} {X:Cx} {H H':HH} {S S':Addr→Prop} {ρ ρ':aq} {h h':Mm} {pos p:Pos} {tg e a b o i:Expr} {fe fa fb fo fi:Fe} {g:Ft} {ks:List Nat}
theorem qh {f:Str} {pos':Pos} {P:Prg} (xw:XW W X) (ho:PE X o (tE W fo)) (he:PE X e (tE W fe))
  (hcl:∀ c k,P.cls c=some k→L2.Cls W.K (W.cA c)∧∀ g∈k.flds,L2.NoAttr W.K (W.cA c) g):
  PS X (.Assign [.Attribute o f pos'] e pos) (tS W (kQ fe fun d env h=>match fo env h with
  | some (.ref n,h1)=>(match h1.get n with
   | some (.ins c fs)=>(match P.cls c with
    | some k=>bif k.flds.contains f&&Nat.ble fs.length 900 then some (env,h1.set n (.ins c (putF f d fs))) else none
    | none=>none)
   | _=>none)
  | _=>none)):=by
 refine (L2.ps_fld ho he (by cases e<;>rfl)).sub fun N σ H hw=>?_
 obtain⟨env,S,ρ,h,r,re,R,hf,wq⟩:=hw
 unfold kQ at hf
 split at hf
 rotate_left
 ·cases hf
 rename_i d h1 ea
 split at hf
 rotate_left
 ·cases hf
 rename_i env1 h2 eg
 cases hf
 dsimp only at eg
 split at eg
 ·rename_i n h3 eo
  split at eg
  ·rename_i c fs en
   split at eg
   ·rename_i k ek
    obtain⟨hc,eg⟩:=aa eg
    cases eg
    rw[Bool.and_eq_true]at hc
    obtain⟨hC,hN⟩:=hcl c k ek
    refine⟨env,S,ρ,h,d,h1,re,R,ea,fun S1 ρ1 H1 v1 g1 R1 r1=>?_⟩
    refine⟨env,S1,ρ1,h1,_,h3,re.go g1 R,R1,eo,fun S2 ρ2 H2 v2 g2 R2 r2=>?_⟩
    cases r2 with
    | @ref _ a q=>
     obtain⟨a',hob,q',ea',ns,ro⟩:=R2.lv _ _ en
     rw[q]at q';cases q'
     cases ro with
     | @ins c dx fs gs rf=>
      refine⟨a,W.cA c,dx,gs,rfl,ea',by rw[xw.K];exact hC,by rw[xw.K];exact hN f (by simpa using hc.1),?_,?_⟩
      ·rw[← jH rf]
       exact Nat.lt_of_le_of_lt (Nat.le_of_ble_eq_true hc.2) (by decide)
      ·obtain⟨g3,R3⟩:=dc (o':=.ins c (putF f d fs)) (ho':=.ins (W.cA c) dx (L2.putF f v1 gs)) R2 en q fun H' st=>.ins ((iP (r1.go g2 R1) rf).mono' (fun _ z=>z) st fun _ _ e=>e)
       exact wq.nx ((g1.trans g2).trans g3) R3 (re.go ((g1.trans g2).trans g3) R)
   ·cases eg
  ·cases eg
 ·cases eg
abbrev bD (g:Ft) (fb:bR):D→Env→Mm→Option (Fl×Env×Mm):=fun x env h=>match g x env h with
 | some (env2,h2)=>fb env2 h2
 | none=>none
theorem uA {iter:Expr} {body:List Stmt} {fi:Fi} {fb:bR} (xw:XW W X) (hp:PassesOwn (model X.prog X.w) X.A X.env X.xe) (hi:PI X tg iter (tI W fi)) (hg:PG X tg (tT W ks g)) (hb:PSs X body (tS W fb)) (pl:aE iter=true):
  PS X (.For tg iter body [] pos) (tS W fun env h=>match fi env h with
  | some (xs,w,h1)=>aQ (fun h=>stay h w) (bD g fb) xs env h1
  | none=>none):=by
 refine (L2.ps_for hp xw.calm hi hg hb (da pl)).sub fun N σ H hw=>?_
 obtain⟨env,S,ρ,h,r,re,R,hf,wq⟩:=hw
 try dsimp only at hf
 split at hf
 rotate_left
 ·cases hf
 rename_i xs w h1 ea
 refine⟨env,S,ρ,h,xs,w,h1,re,R,ea,fun S1 ρ1 H1 J g1 R1 sn=>?_⟩
 let Wit:Nat→L2.St→HH→Prop:=fun i σ2 H2=>∃ env2 S2 ρ2 h2,Go S1 ρ1 h1 H1 S2 ρ2 h2 H2∧RH W H2 S2 ρ2 h2∧RE W H2 S2 ρ2 env2 σ2∧aQ (fun h=>stay h w) (bD g fb) (xs.drop i) env2 h2=some r
 refine⟨fun i m σ2 H2=>m=xs.length - i∧i≤xs.length∧Wit i σ2 H2,⟨xs.length,rfl,Nat.zero_le _,env,S1,ρ1,h1,.refl,R1,re.go g1 R,hf⟩,?_⟩
 rintro i m σ2 H2 ⟨rfl,hi,env2,S2,ρ2,h2,g2,R2,re2,ev⟩
 by_cases hlt:i < xs.length
 ·rw[bM hlt]at ev
  simp only[aQ]at ev
  obtain⟨st,ev⟩:=aa ev
  obtain⟨_,sn2⟩:=sn i S2 ρ2 h2 H2 (g2.w R1) R2 st
  obtain⟨go,yl⟩:=sn2 xs[i] (by simp[hlt])
  refine .inr ⟨go,Wit (i + 1),fun σ' H' w'=>⟨xs.length - (i + 1),by omega,rfl,hlt,w'⟩,fun v H3 y=>?_⟩
  obtain⟨S3,g3,R3,r3⟩:=yl v H3 y
  generalize et:bD g fb xs[i] env2 h2=t at ev
  cases t with
  | none=>cases ev
  | some t=>
   simp only[bD]at et
   split at et
   rotate_left
   ·cases et
   rename_i env4 h4 eg
   refine⟨env2,S3,ρ2,h2,xs[i],env4,h4,re2.go g3 R2,R3,r3,eg,fun S4 ρ4 H4 σ4 g4 R4 re4 _=>?_⟩
   refine⟨env4,S4,ρ4,h4,t,re4,R4,et,fun S5 ρ5 H5 g5 R5=>?_⟩
   have gg:Go S1 ρ1 h1 H1 S5 ρ5 t.2.2 H5:=(g2.trans g3).trans (g4.trans g5)
   obtain⟨fl,env5,h5⟩:=t
   cases fl with
   | nx=>exact fun σ5 re5=>⟨env5,S5,ρ5,h5,gg,R5,re5,ev⟩
   | ct=>exact fun σ5 re5=>⟨env5,S5,ρ5,h5,gg,R5,re5,ev⟩
   | bk=>
    cases ev
    exact fun σ5 re5=>wq.nx (g1.trans gg) R5 re5
   | rt d=>
    cases ev
    exact fun v rv=>wq S5 ρ5 H5 (g1.trans gg) R5 v rv
 ·have e:i=xs.length:=by omega
  subst e
  rw[List.drop_length]at ev
  simp only[aQ]at ev
  obtain⟨st,ev⟩:=aa ev
  cases ev
  obtain⟨stop,_⟩:=sn xs.length S2 ρ2 _ H2 (g2.w R1) R2 st
  exact .inl ⟨stop (Nat.le_refl _),wq.nx (g1.trans g2) R2 re2⟩
theorem uf {c:Expr} {body:List Stmt} {fc:Fc} {fb:bR} {n:Nat} (hp:PassesOwn (model X.prog X.w) X.A X.env X.xe) (hc:PT X c (tC W fc)) (hb:PSs X body (tS W fb)):
  PS X (.While c body [] pos) (tS W fun env h=>iK fc fb n env h):=by
 refine (L2.ps_while hp hc hb).sub fun N σ H hw=>?_
 obtain⟨env,S,ρ,h,r,re,R,hf,wq⟩:=hw
 try dsimp only at hf
 let Wit:Nat→L2.St→HH→Prop:=fun m σ2 H2=>∃ env2 S2 ρ2 h2,Go S ρ h H S2 ρ2 h2 H2∧RH W H2 S2 ρ2 h2∧RE W H2 S2 ρ2 env2 σ2∧iK fc fb m env2 h2=some r
 refine⟨Wit,⟨n,env,S,ρ,h,.refl,R,re,hf⟩,?_⟩
 rintro m σ2 H2 ⟨env2,S2,ρ2,h2,g2,R2,re2,ev⟩
 cases m with
 | zero=>cases ev
 | succ m=>
  simp only[iK]at ev
  split at ev
  ·rename_i h3 ec
   cases ev
   refine⟨env2,S2,ρ2,h2,false,_,re2,R2,ec,fun S3 ρ3 H3 g3 R3=>?_⟩
   show ite _ _ _
   rw[if_neg Bool.false_ne_true]
   exact wq.nx (g2.trans g3) R3 (re2.go g3 R2)
  ·rename_i h3 ec
   refine⟨env2,S2,ρ2,h2,true,h3,re2,R2,ec,fun S3 ρ3 H3 g3 R3=>?_⟩
   show ite _ _ _
   rw[if_pos rfl]
   refine⟨Wit m,fun σ' H' w'=>⟨m,Nat.lt_succ_self _,w'⟩,?_⟩
   generalize et:fb env2 h3=t at ev
   cases t with
   | none=>cases ev
   | some t=>
    refine⟨env2,S3,ρ3,h3,t,re2.go g3 R2,R3,et,fun S5 ρ5 H5 g5 R5=>?_⟩
    have gg:Go S ρ h H S5 ρ5 t.2.2 H5:=(g2.trans g3).trans g5
    obtain⟨fl,env5,h5⟩:=t
    cases fl with
    | nx=>exact fun σ5 re5=>⟨env5,S5,ρ5,h5,gg,R5,re5,ev⟩
    | ct=>exact fun σ5 re5=>⟨env5,S5,ρ5,h5,gg,R5,re5,ev⟩
    | bk=>
     cases ev
     exact fun σ5 re5=>wq.nx gg R5 re5
    | rt d=>
     cases ev
     exact fun v rv=>wq S5 ρ5 H5 gg R5 v rv
  ·cases ev
abbrev pur:Option D→Option D:=fun o=>match o with | some d=>(bif aD d then some d else none) | none=>none
theorem j6:∀ (env:Env) (i:Nat) (d:D),av (env.map pur) i=some d→av env i=some d∧aD d=true
 | [],i,d,e=>by simp[av]at e
 | x :: r,0,d,e=>by
  have e:pur x=some d:=e
  cases x with
  | none=>cases e
  | some y=>
   obtain⟨h1,h2⟩:=aa e
   cases h2
   exact⟨rfl,h1⟩
 | x :: r,i + 1,d,e=>j6 r i d e
theorem RE.pur {env σ S1 ρ1} (x:RE W H S ρ env σ) (s1:∀ a,S a→S1 a):RE W H S1 ρ1 (env.map pur) σ:=
 ⟨by rw[List.length_map];exact x.len,fun i d e=>by
  obtain⟨h1,h2⟩:=j6 env i d e
  obtain⟨v,h3,h4⟩:=x.at_ i d h1
  exact⟨v,h3,h4.pure s1 h2⟩⟩
theorem uc {body:List Stmt} {fb:bR} (hb:PSs X body (tS W fb)):PSs X body (tS W fun env h=>match fb (env.map pur) .nil with
  | some (.nx,env1,_)=>some (.nx,env1.map pur,h)
  | some (.ct,env1,_)=>some (.ct,env1.map pur,h)
  | some (.bk,env1,_)=>some (.bk,env1.map pur,h)
  | some (.rt d,_,_)=>bif aD d then some (.rt d,[],h) else none
  | none=>none):=by
 refine hb.sub fun N σ H hw=>?_
 obtain⟨env,S,ρ,h,r,re,R,hf,wq⟩:=hw
 try dsimp only at hf
 have key:∀ (fl:Fl) (env1:Env) (h1:Mm),fb (env.map pur) .nil=some (fl,env1,h1)→(∀ S1 ρ1 H1,Go S cQ .nil H S1 ρ1 h1 H1→RH W H1 S1 ρ1 h1→Go S ρ h H S1 ρ h H1→RH W H1 S1 ρ h→match fl with
   | .nx=>∀ σ',RE W H1 S1 ρ1 env1 σ'→N.nx σ' H1
   | .bk=>∀ σ',RE W H1 S1 ρ1 env1 σ'→N.bk σ' H1
   | .ct=>∀ σ',RE W H1 S1 ρ1 env1 σ'→N.ct σ' H1
   | .rt d=>∀ v,RV W H1 S1 ρ1 d v→N.rt v H1)→tS W fb N σ H:=fun fl env1 h1 e1 k=>
  ⟨env.map pur,S,cQ,.nil,(fl,env1,h1),re.pur fun _ z=>z,jK R,e1,fun S1 ρ1 H1 g1 R1=>by
   obtain⟨g2,R2⟩:=apart (T:=S1) R g1 R1 (fun _ x=>x) fun _ x=>.inl x
   exact k S1 ρ1 H1 g1 R1 g2 R2⟩
 split at hf
 ·rename_i env1 h1 e1
  cases hf
  exact key _ _ _ e1 fun S1 ρ1 H1 g1 R1 g2 R2 σ' re1=>wq.nx g2 R2 (re1.pur fun _ z=>z)
 ·rename_i env1 h1 e1
  cases hf
  exact key _ _ _ e1 fun S1 ρ1 H1 g1 R1 g2 R2 σ' re1=>wq S1 ρ H1 g2 R2 σ' (re1.pur fun _ z=>z)
 ·rename_i env1 h1 e1
  cases hf
  exact key _ _ _ e1 fun S1 ρ1 H1 g1 R1 g2 R2 σ' re1=>wq S1 ρ H1 g2 R2 σ' (re1.pur fun _ z=>z)
 ·rename_i d env1 h1 e1
  obtain⟨hp,hf⟩:=aa hf
  cases hf
  exact key _ _ _ e1 fun S1 ρ1 H1 g1 R1 g2 R2 v rv=>wq S1 ρ H1 g2 R2 v (rv.pure (fun _ z=>z) hp)
 ·cases hf
end
open L2 (upd upd_same upd_ne ne_of ne_of_none Cx VK OpR SqL SqT Key kV Inv valV putK RelV HOk ObjOk IxR SlR TruR PSet PGet CallR MtR EP PE PT PA PW TE TT TA PO thn CX0 pass0 Room FnOk Gl Binds Cls Meth Mk PG PGs TG TGs PI TI Turn FpOk Loc PTs BlkOk PS)
section
variable {W:Wd} {X:Cx} {H H':HH} {S S':Addr→Prop} {ρ ρ':aq} {h h':Mm} {pos:Pos} {tg:Expr} {ks:List Nat}
theorem GoW.trans {S ρ H S1 ρ1 H1 S2 ρ2 H2} (a:GoW S ρ H S1 ρ1 H1) (b:GoW S1 ρ1 H1 S2 ρ2 H2):GoW S ρ H S2 ρ2 H2:=⟨fun x q=>b.sS x (a.sS x q),fun n x q=>b.rr n x (a.rr n x q),fun x o s e=>b.s2 x o (a.sS x s) (a.s2 x o s e),fun x od u e=>b.fz x od u (a.fz x od u e)⟩
theorem RE.gow {H H':HH} {S S':Addr→Prop} {ρ ρ':aq} {env σ} (x:RE W H S ρ env σ) (g:GoW S ρ H S' ρ' H'):RE W H' S' ρ' env σ:=
 ⟨x.len,fun i d e=>let ⟨v,q,r⟩:=x.at_ i d e;⟨v,q,r.gow g⟩⟩
end
theorem nM:∀ (m:List (Nat×O)) (n k:Nat),lk (j4 m n) k=if n=k then none else lk m k
 | [],n,k=>by simp[j4,lk]
 | (j,u) :: r,n,k=>by
  have ih:=nM r n k
  unfold j4
  by_cases h:j=n
  ·rw[if_pos h,ih]
   by_cases e:n=k
   ·rw[if_pos e,if_pos e]
   ·rw[if_neg e,if_neg e]
    show lk r k=if j=k then some u else lk r k
    rw[if_neg (by omega)]
  ·rw[if_neg h]
   show (if j=k then some u else lk (j4 r n) k)=if n=k then none else if j=k then some u else lk r k
   rw[ih]
   by_cases e:n=k
   ·rw[if_pos e,if_neg (by omega),if_pos e]
   ·rw[if_neg e,if_neg e]
theorem iu {h:Mm} {n k:Nat}:(h.del n).get k=if n=k then none else h.get k:=nM _ _ _
theorem lF {h:Mm} {n k:Nat} {o:O}:(h.put n o).get k=if n=k then some o else h.get k:=rfl
section
variable {W:Wd} {H H':HH} {S S':Addr→Prop} {ρ ρ':aq} {h h':Mm}
section
variable {n:Nat} {a:Addr} {o:O} {u:L2.HO} {od:Obj}
structure Lok (W:Wd) (H:HH) (S:Addr→Prop) (ρ:aq) (h:Mm) (n:Nat) (a:Addr) (o:O) (u:L2.HO):Prop where
 R:RH W H S ρ h
 g:h.get n=some o
 q:ρ n=some a
 e:H a=some u
 ns:¬ S a
 ro:RO W H S ρ a o u
theorem nA (R:RH W H S ρ h) (g:h.get n=some o):∃ a u,Lok W H S ρ h n a o u:=by
 obtain⟨a,u,q,e,ns,ro⟩:=R.lv n o g
 exact⟨a,u,R,g,q,e,ns,ro⟩
theorem Lok.s2 (k:Lok W H S ρ h n a o u):∀ b w,S b→H b=some w→upd H a (.frz od u) b=some w:=fun b w s e=>by
 rw[upd_ne (fun (z:b=a)=>k.ns (z ▸ s))];exact e
theorem Lok.nv (k:Lok W H S ρ h n a o u):¬ bo ρ (h.del n) a:=by
 rintro ⟨m,o',e,q⟩
 rw[iu]at e
 by_cases z:n=m
 ·rw[if_pos z]at e;cases e
 ·rw[if_neg z]at e
  exact z (k.R.inj n m a o o' k.g e k.q q)
theorem Lok.rh (k:Lok W H S ρ h n a o u):RH W (upd H a (.frz od u)) S ρ (h.del n):=by
 have lv:∀ m o',(h.del n).get m=some o'→n≠m∧h.get m=some o':=fun m o' e=>by
  rw[iu]at e
  by_cases z:n=m
  ·rw[if_pos z]at e;cases e
  ·rw[if_neg z]at e;exact⟨z,e⟩
 refine⟨fun m o' e=>?_,fun m j b o1 o2 e1 e2=>k.R.inj m j b o1 o2 (lv _ _ e1).2 (lv _ _ e2).2,k.R.nx,fun b s=>?_⟩
 ·obtain⟨z,e⟩:=lv m o' e
  obtain⟨b,ho,q,eb,ns,ro⟩:=k.R.lv m o' e
  have hb:b≠a:=fun y=>z (k.R.inj n m a o o' k.g e k.q (y ▸ q))
  exact⟨b,ho,q,by rw[upd_ne hb];exact eb,ns,ro.mono' (fun _ z=>z) k.s2 fun _ _ e=>e⟩
 ·obtain⟨w,e⟩:=k.R.st b s
  exact⟨w,k.s2 b w s e⟩
theorem Lok.re (k:Lok W H S ρ h n a o u) {env σ} (x:RE W H S ρ env σ):RE W (upd H a (.frz od u)) S ρ env σ:=
 ⟨x.len,fun i d e=>let ⟨v,p,r⟩:=x.at_ i d e;⟨v,p,r.mono' (fun _ z=>z) k.s2 fun _ _ e=>e⟩⟩
structure Unl (W:Wd) (H:HH) (S:Addr→Prop) (ρ:aq) (h:Mm) (n:Nat) (a:Addr) (o:O) (u:L2.HO) (od:Obj) (S1:Addr→Prop) (ρ1:aq) (h1:Mm) (H1:HH):Prop where
 e:H1 a=some (.frz od u)
 g:Go S ρ h H S1 ρ1 (h1.put n o) (upd H1 a u)
 R:RH W (upd H1 a u) S1 ρ1 (h1.put n o)
 s:∀ b w,S1 b→H1 b=some w→upd H1 a u b=some w
theorem Lok.un (k:Lok W H S ρ h n a o u) {S1:Addr→Prop} {ρ1:aq} {h1:Mm} {H1:HH} (g:Go S ρ (h.del n) (upd H a (.frz od u)) S1 ρ1 h1 H1) (R1:RH W H1 S1 ρ1 h1):Unl W H S ρ h n a o u od S1 ρ1 h1 H1:=by
 have RL:=k.rh (od:=od)
 have ea:H1 a=some (.frz od u):=g.fr a _ upd_same k.nv
 have ns1:¬ S1 a:=fun s=>by
  rcases g.sB a s with z | z | z
  ·exact k.ns z
  ·rw[upd_same]at z;cases z
  ·exact k.nv z
 have nl1:¬ bo ρ1 h1 a:=fun l=>by
  rcases g.lb a l with z | z
  ·exact k.nv z
  ·rw[upd_same]at z;cases z
 have qa:ρ1 n=some a:=g.rr n a k.q
 have liv:bo ρ h a:=⟨n,o,k.g,k.q⟩
 have dl:∀ b,bo ρ (h.del n) b→bo ρ h b:=fun b ⟨m,o',e,q⟩=>by
  rw[iu]at e
  by_cases z:n=m
  ·rw[if_pos z]at e;cases e
  ·rw[if_neg z]at e;exact⟨m,o',e,q⟩
 have s:∀ b w,S1 b→H1 b=some w→upd H1 a u b=some w:=fun b w sb e=>by
  have hb:b≠a:=fun z=>ns1 (z ▸ sb)
  rw[upd_ne hb];exact e
 have lv:∀ m o' b,(h1.put n o).get m=some o'→ρ1 m=some b→(m=n∧o' = o∧b=a)∨(m≠n∧h1.get m=some o'∧b≠a):=fun m o' b e q=>by
  rw[lF]at e
  by_cases z:n=m
  ·rw[if_pos z]at e;cases e
   subst z
   rw[qa]at q;cases q
   exact .inl ⟨rfl,rfl,rfl⟩
  ·rw[if_neg z]at e
   exact .inr ⟨Ne.symm z,e,fun y=>nl1 ⟨m,o',e,y ▸ q⟩⟩
 refine⟨ea,⟨g.sS,fun b sb=>?_,g.rr,fun b w e l=>?_,fun b l=>?_⟩,⟨fun m o' e=>?_,fun m j b o1 o2 e1 e2 q1 q2=>?_,R1.nx,fun b sb=>?_⟩,s⟩
 ·have hb:b≠a:=fun z=>ns1 (z ▸ sb)
  rcases g.sB b sb with q | q | q
  ·exact .inl q
  ·rw[upd_ne hb]at q;exact .inr (.inl q)
  ·exact .inr (.inr (dl b q))
 ·have hb:b≠a:=fun z=>l (z ▸ liv)
  rw[upd_ne hb]
  exact g.fr b w (by rw[upd_ne hb];exact e) fun z=>l (dl b z)
 ·obtain⟨m,o',e,q⟩:=l
  rcases lv m o' b e q with ⟨_,_,rfl⟩ | ⟨_,e,hb⟩
  ·exact .inl liv
  ·rcases g.lb b ⟨m,o',e,q⟩ with z | z
   ·exact .inl (dl b z)
   ·rw[upd_ne hb]at z;exact .inr z
 ·rw[lF]at e
  by_cases z:n=m
  ·rw[if_pos z]at e;cases e
   subst z
   refine⟨a,u,qa,upd_same,ns1,k.ro.mono' g.sS (fun b w sb e=>?_) g.rr⟩
   have hb:b≠a:=fun z=>k.ns (z ▸ sb)
   rw[upd_ne hb]
   exact g.s2 RL b w sb (by rw[upd_ne hb];exact e)
  ·rw[if_neg z]at e
   obtain⟨b,ho,q,eb,ns,ro⟩:=R1.lv m o' e
   have hb:b≠a:=fun y=>nl1 ⟨m,o',e,y ▸ q⟩
   exact⟨b,ho,q,by rw[upd_ne hb];exact eb,ns,ro.mono' (fun _ z=>z) s fun _ _ e=>e⟩
 ·rcases lv m o1 b e1 q1 with ⟨rfl,_,rfl⟩ | ⟨_,f1,hb⟩
  ·rcases lv j o2 b e2 q2 with ⟨rfl,_,_⟩ | ⟨_,_,hb⟩
   ·rfl
   ·exact absurd rfl hb
  ·rcases lv j o2 b e2 q2 with ⟨_,_,z⟩ | ⟨_,f2,_⟩
   ·exact absurd z hb
   ·exact R1.inj m j b o1 o2 f1 f2 q1 q2
 ·obtain⟨w,e⟩:=R1.st b sb
  exact⟨w,s b w sb e⟩
theorem Unl.re {S1 ρ1 h1 H1} (x:Unl W H S ρ h n a o u od S1 ρ1 h1 H1) {env σ} (r:RE W H1 S1 ρ1 env σ):RE W (upd H1 a u) S1 ρ1 env σ:=
 ⟨r.len,fun i d e=>let ⟨v,p,q⟩:=r.at_ i d e;⟨v,p,q.mono' (fun _ z=>z) x.s fun _ _ e=>e⟩⟩
theorem Unl.rv {S1 ρ1 h1 H1} (x:Unl W H S ρ h n a o u od S1 ρ1 h1 H1) {d v} (r:RV W H1 S1 ρ1 d v):RV W (upd H1 a u) S1 ρ1 d v:=r.mono' (fun _ z=>z) x.s fun _ _ e=>e
end
def sw (W:Wd) (a:Addr) (od:Obj) (xs:List fC):L2.It:=
 ⟨fun i H=>H a=some (.frz od (cw W a xs))∧i < xs.length,fun i H x H'=>H' = H∧∃ k q u,xs[i]? = some (k,q,u)∧x = .ref q,fun i H=>H a=some (.frz od (cw W a xs))∧xs.length≤i⟩
section
variable {X:Cx} {pins:List (Addr×Obj)} {σ:L2.St} {s:Shared} {a:Addr} {od:Obj} {xs:List fC} {tg:Expr}
theorem pU (I:Inv X pins σ H s) (e:H a=some (.frz od (cw W a xs))):(a == sysModules)=false∧s.heap.get? a=some od∧od.ExactDict∧∃ (es:Array DictEntry) (ep:Nat),od.data = .dict es ep∧es.toList=xs.map (entryOfKey (nestedKind W.P W.w)):=by
 obtain⟨hd,⟨hs,hl,o',es,ep,ho,hx,hdt,he,hn⟩,_,_⟩:=I.hok a _ e
 rw[hd]at ho;cases ho
 exact⟨hs,hd,hx,es,ep,hdt,he⟩
theorem mz {P:Program} {w:World} {K:PySem.W.Frag} {es:Array DictEntry} {ep:Nat} (it:Addr) (hod:od.data = .dict es ep):Turn P w K tg (sw W a od xs) [it] it (fun i h=>h.IsKeyIter it a i xs.length ep) where
 mem:=by simp
 obj:=fun i h st b hb=>by
  have e:b=it:=by simpa using hb
  subst e
  obtain⟨oi,e,c,dd⟩:=st
  exact⟨oi,e,fun v z=>by rw[dd]at z;cases z⟩
 keep:=fun i h h' st k=>st.at fun oi e=>k it (by simp) oi e
 item:=by
  intro X hP hw hK hc i pins s σ H E I hf st hg
  subst hP hw hK
  obtain⟨hd,hi⟩:=hg
  obtain⟨f0,f1,f2,f3,f4,f5⟩:=hf it (by simp)
  obtain⟨hs,hgd,hx,es',ep',hdt,he⟩:=pU I hd
  obtain⟨rfl,rfl⟩:=L2.dict_ep hod hdt
  obtain⟨⟨k,q,u⟩,hkv⟩:∃ p,xs[i]? = some p:=⟨xs[i],List.getElem?_eq_getElem hi⟩
  have hsz:es'.size=xs.length:=size_of_entries he
  have hen:=entry_at he i
  rw[hkv]at hen
  refine L2.next_key_item st hgd hdt hsz hen fun h' st' sb=>?_
  have I1:Inv X pins σ H { s with heap:=h' }:=I.turned (t':=s.toks) (fun b ob hb e=>(sb.2 b hb).trans e) f0 f1 f3 f4 f5
  obtain⟨oi,e,c,dd⟩:=id st'
  exact⟨_,rfl,L2.go_of (s:={ s with heap:=h' }) e c dd (by decide) ⟨.ref q,H,I1,rfl,⟨rfl,k,q,u,hkv,rfl⟩,st',fun b hb=>(hf b hb).1⟩⟩
 done:=by
  intro X hP hw hK hc i pins s σ H E I hf st hg
  subst hP hw hK
  obtain⟨hd,hi⟩:=hg
  obtain⟨f0,f1,f2,f3,f4,f5⟩:=hf it (by simp)
  obtain⟨hs,hgd,hx,es',ep',hdt,he⟩:=pU I hd
  obtain⟨rfl,rfl⟩:=L2.dict_ep hod hdt
  exact L2.next_key_end (I.ok.hd hc) st hgd hdt (size_of_entries he) hi fun h' eb=>⟨rfl,I.turned (t':=s.toks) (fun b ob hb e=>eb b ob hb e) f0 f1 f3 f4 f5⟩
 self:=fun A i s Q E st h=>by
  refine wpAny_pyIter_slot st.typeIs F.slot_dict_keyiterator_iter (wpAny_call_entry F.slot_dict_keyiterator_iter st.typeIs F.entry_dict_keyiterator_iter ?_ (F.args_dict_keyiterator_iter_1 _))
  show wpAny _ _ (ret (.ref it)) _ _ s
  exact wpAny_pure ⟨_,rfl,"dict_keyiterator",_,st.typeIs,F.slot_dict_keyiterator_next.lookup,h⟩
def vK (W:Wd) (td:TE):TI:=fun σ H R=>td σ H fun x H1=>∃ d o,x = .ref d∧((∃ kvs,H1 d=some (.frz o (.dK kvs))∧R (L2.Itk d o kvs) H1)∨∃ xs,H1 d=some (.frz o (cw W d xs))∧R (sw W d o xs) H1)
theorem ku {e:Expr} {td:TE} (he:PE X e td):PI X tg e (vK W td):=by
 refine⟨fun pins s σ H R I h=>?_⟩
 refine thn (he.run pins s σ H _ I h) fun u s1 ⟨x,H1,I1,rx,d,o,ex,q⟩=>?_
 subst ex
 obtain rfl:u=Value.ref d:=rx
 rcases q with ⟨kvs,hd,q⟩ | ⟨xs,hd,q⟩
 ·obtain⟨hs,hgd,hx,es,ep,vs,hdt,hsz,kv,hm⟩:=I1.frzK hd
  refine L2.iter_keys hs hgd hx hdt (L2.pi_one (tk:=s1.toks) I1 _ (L2.turn_keys _ hdt) ⟨_,Heap.get?_push_size _ rfl,rfl,?_⟩ q)
  rw[hsz]<;>rfl
 ·obtain⟨hs,hgd,hx,es,ep,hdt,he'⟩:=pU I1 hd
  have hsz:es.size=xs.length:=size_of_entries he'
  refine L2.iter_keys hs hgd hx hdt (L2.pi_one (tk:=s1.toks) I1 _ (mz _ hdt) ⟨_,Heap.get?_push_size _ rfl,rfl,?_⟩ q)
  rw[hsz]<;>rfl
theorem iE:∀ {kvs:List (D×D)} {ks:List (Key×L2.V)} {i:Nat} {d:D},RKs W H S ρ kvs ks→(kvs.map (·.1))[i]? = some d→∃ k v,ks[i]? = some (k,v)∧∀ H' S' ρ',RV W H' S' ρ' d (kV k)
 | _,_,_,_,.nil,e=>by simp at e
 | _,_,0,_,.int (i:=j) a r,e=>by simp at e;subst e;exact⟨.inl j,_,rfl,fun _ _ _=>.int j⟩
 | _,_,0,_,.str (x:=x) a r,e=>by simp at e;subst e;exact⟨.inr x,_,rfl,fun _ _ _=>.str x⟩
 | _,_,i + 1,_,.int a r,e=>by simpa using iE (i:=i) r (by simpa using e)
 | _,_,i + 1,_,.str a r,e=>by simpa using iE (i:=i) r (by simpa using e)
theorem lu:∀ {kvs:List (D×D)} {xs:List fC} {i:Nat} {d:D},RTs W H S ρ kvs xs→(kvs.map (·.1))[i]? = some d→∃ n q u,xs[i]? = some (n,q,u)∧RV W H S ρ d (.ref q)
 | _,_,_,_,.nil,e=>by simp at e
 | _,_,0,_,.cons n hd k a u r,e=>by simp at e;subst e;exact⟨_,_,_,rfl,k⟩
 | _,_,i + 1,_,.cons n hd k a u r,e=>by
  obtain⟨m,q,w,h1,h2⟩:=lu (i:=i) r (by simpa using e)
  exact⟨m,q,w,by simpa using h1,h2⟩
theorem wp {kvs:List (D×D)} {ks:List (Key×L2.V)} (r:RKs W H S ρ kvs ks) (e:H a=some (.frz od (.dK ks))):dg W S ρ h H none (kvs.map (·.1)) (L2.Itk a od ks):=fun i S2 ρ2 h2 H2 g R st=>by
 have e2:H2 a=some (.frz od (.dK ks)):=g.fz a _ _ e
 have hl:kvs.length=ks.length:=r.len
 refine⟨fun hi=>⟨e2,by rw[← hl];simpa using hi⟩,fun d hd=>?_⟩
 obtain⟨k,v,hk,rk⟩:=iE r hd
 refine⟨⟨e2,(List.getElem?_eq_some_iff.mp hk).1⟩,fun w H3 y=>?_⟩
 obtain⟨rfl,k',v',hk',rfl⟩:=y
 rw[hk]at hk';cases hk'
 exact⟨S2,.refl,R,rk _ _ _⟩
theorem wG {kvs:List (D×D)} {xs:List fC} (r:RTs W H S ρ kvs xs) (e:H a=some (.frz od (cw W a xs))):dg W S ρ h H none (kvs.map (·.1)) (sw W a od xs):=fun i S2 ρ2 h2 H2 g R st=>by
 have e2:H2 a=some (.frz od (cw W a xs)):=g.fz a _ _ e
 have hl:kvs.length=xs.length:=r.len
 have r2:RTs W H2 S2 ρ2 kvs xs:=r.mono' g.sS g.s2 g.rr
 refine⟨fun hi=>⟨e2,by rw[← hl];simpa using hi⟩,fun d hd=>?_⟩
 obtain⟨k,q,u,hk,rk⟩:=lu r2 hd
 refine⟨⟨e2,(List.getElem?_eq_some_iff.mp hk).1⟩,fun w H3 y=>?_⟩
 obtain⟨rfl,k',q',u',hk',rfl⟩:=y
 rw[hk]at hk';cases hk'
 exact⟨S2,.refl,R,rk⟩
theorem i9 {n:Nat} {t:Bool} {kvs:List (D×D)} {u:L2.HO} (k:Lok W H S ρ h n a (.dic t kvs) u) {S1:Addr→Prop} {ρ1:aq} {h1:Mm} {H1:HH} (g:Go S ρ (h.del n) (upd H a (.frz od u)) S1 ρ1 h1 H1) (R1:RH W H1 S1 ρ1 h1) {R:L2.It→HH→Prop}
  (hR:∀ J,dg W S1 ρ1 h1 H1 none (kvs.map (·.1)) J→R J H1):
  (∃ ks,H1 a=some (.frz od (.dK ks))∧R (L2.Itk a od ks) H1)∨∃ xs,H1 a=some (.frz od (cw W a xs))∧R (sw W a od xs) H1:=by
 have RL:=k.rh (od:=od)
 have ea:H1 a=some (.frz od u):=g.fr a _ upd_same k.nv
 have s2:∀ b w,S b→H b=some w→H1 b=some w:=fun b w sb e=>g.s2 RL b w sb (k.s2 b w sb e)
 cases k.ro with
 | dicK r=>exact .inl ⟨_,ea,hR _ (wp (r.mono' g.sS s2 g.rr) ea)⟩
 | dicT r=>exact .inr ⟨_,ea,hR _ (wG (r.mono' g.sS s2 g.rr) ea)⟩
theorem Lok.nl {n:Nat} {t:Bool} {kvs:List (D×D)} {u:L2.HO} (k:Lok W H S ρ h n a (.dic t kvs) u):L2.Mut (some u):=by
 cases k.ro with
 | dicK r=>exact True.intro
 | dicT r=>exact True.intro
end
end
section
variable {W:Wd} {X:Cx} {H H' H1:HH} {S S' S1:Addr→Prop} {ρ ρ' ρ1:aq} {h h' h1:Mm} {pos p:Pos} {tg e a b o i:Expr} {fe fa fb fo fi:Fe} {g:Ft} {ks:List Nat}
theorem jE {fb:bR} {env:Env} {σ:L2.St} {xs:List D} {w} {r:Fl×Env×Mm} {J:L2.It} {N:Ends} (R1:RH W H1 S1 ρ1 h1) (re1:RE W H1 S1 ρ1 env σ) (sn:dg W S1 ρ1 h1 H1 w xs J)
  (hf:aQ (fun h=>stay h w) (bD g fb) xs env h1=some r) (wq:dT W S1 ρ1 h1 H1 r N):
  ∃ Wt:Nat→Nat→L2.St→HH→Prop,(∃ m,Wt 0 m σ H1)∧∀ i m σ H,Wt i m σ H →
   (J.stop i H∧N.nx σ H)∨(J.go i H∧∃ Nn:L2.St→HH→Prop,(∀ σ' H',Nn σ' H'→∃ m',m' < m∧Wt (i + 1) m' σ' H')∧∀ x H',J.yld i H x H'→tT W ks g x σ H' fun σ2 H2=>tS W fb { N with nx:=Nn,ct:=Nn,bk:=N.nx } σ2 H2):=by
 let Wit:Nat→L2.St→HH→Prop:=fun i σ2 H2=>∃ env2 S2 ρ2 h2,Go S1 ρ1 h1 H1 S2 ρ2 h2 H2∧RH W H2 S2 ρ2 h2∧RE W H2 S2 ρ2 env2 σ2∧aQ (fun h=>stay h w) (bD g fb) (xs.drop i) env2 h2=some r
 refine⟨fun i m σ2 H2=>m=xs.length - i∧i≤xs.length∧Wit i σ2 H2,⟨xs.length,rfl,Nat.zero_le _,env,S1,ρ1,h1,.refl,R1,re1,hf⟩,?_⟩
 rintro i m σ2 H2 ⟨rfl,hi,env2,S2,ρ2,h2,g2,R2,re2,ev⟩
 by_cases hlt:i < xs.length
 ·rw[bM hlt]at ev
  simp only[aQ]at ev
  obtain⟨st,ev⟩:=aa ev
  obtain⟨_,sn2⟩:=sn i S2 ρ2 h2 H2 (g2.w R1) R2 st
  obtain⟨go,yl⟩:=sn2 xs[i] (by simp[hlt])
  refine .inr ⟨go,Wit (i + 1),fun σ' H' w'=>⟨xs.length - (i + 1),by omega,rfl,hlt,w'⟩,fun v H3 y=>?_⟩
  obtain⟨S3,g3,R3,r3⟩:=yl v H3 y
  generalize et:bD g fb xs[i] env2 h2=t at ev
  cases t with
  | none=>cases ev
  | some t=>
   simp only[bD]at et
   split at et
   rotate_left
   ·cases et
   rename_i env4 h4 eg
   refine⟨env2,S3,ρ2,h2,xs[i],env4,h4,re2.go g3 R2,R3,r3,eg,fun S4 ρ4 H4 σ4 g4 R4 re4 _=>?_⟩
   refine⟨env4,S4,ρ4,h4,t,re4,R4,et,fun S5 ρ5 H5 g5 R5=>?_⟩
   have gg:Go S1 ρ1 h1 H1 S5 ρ5 t.2.2 H5:=(g2.trans g3).trans (g4.trans g5)
   obtain⟨fl,env5,h5⟩:=t
   cases fl with
   | nx=>exact fun σ5 re5=>⟨env5,S5,ρ5,h5,gg,R5,re5,ev⟩
   | ct=>exact fun σ5 re5=>⟨env5,S5,ρ5,h5,gg,R5,re5,ev⟩
   | bk=>
    cases ev
    exact fun σ5 re5=>wq.nx gg R5 re5
   | rt d=>
    cases ev
    exact fun v rv=>wq S5 ρ5 H5 gg R5 v rv
 ·have e:i=xs.length:=by omega
  subst e
  rw[List.drop_length]at ev
  simp only[aQ]at ev
  obtain⟨st,ev⟩:=aa ev
  cases ev
  obtain⟨stop,_⟩:=sn xs.length S2 ρ2 _ H2 (g2.w R1) R2 st
  exact .inl ⟨stop (Nat.le_refl _),wq.nx g2 R2 re2⟩
abbrev qR (fe:Fe) (g:Ft) (fb:bR):bR:=fun env h=>match fe env h with
  | some (.ref n,_)=>(match h.get n with
   | some (.dic t kvs)=>(match fe env (h.del n) with
    | some (.ref n',h1)=>bif Nat.beq n' n then (match aQ (fun h=>stay h none) (bD g fb) (kvs.map (·.1)) env h1 with
     | some (fl,env',h2)=>some (fl,env',h2.put n (.dic t kvs))
     | none=>none) else none
    | _=>none)
   | _=>none)
  | _=>none
theorem qe {body:List Stmt} {fb:bR} (xw:XW W X) (hp:PassesOwn (model X.prog X.w) X.A X.env X.xe) (he:PE X e (tE W fe)) (hg:PG X tg (tT W ks g)) (hb:PSs X body (tS W fb)) (pl:aE e=true):
  PS X (.For tg e body [] pos) (tS W (qR fe g fb)):=by
 refine (L2.ps_lock (L2.ps_for hp xw.calm (ku (W:=W) he) hg hb (da pl))).sub fun N σ H hw=>?_
 obtain⟨env,S,ρ,h,r,re,R,hf,wq⟩:=hw
 unfold qR at hf
 split at hf
 rotate_left
 ·cases hf
 rename_i n h0 ea0
 split at hf
 rotate_left
 ·cases hf
 rename_i t kvs hn
 split at hf
 rotate_left
 ·cases hf
 rename_i n' h1 ea
 obtain⟨hnn,hf⟩:=aa hf
 have hnn:=Nat.eq_of_beq_eq_true hnn
 subst hnn
 split at hf
 rotate_left
 ·cases hf
 rename_i fl env' h2 ef
 cases hf
 obtain⟨a,u,k⟩:=nA R hn
 refine⟨a,u,k.e,k.nl,fun od=>?_⟩
 refine⟨env,S,ρ,h.del n',.ref n',h1,k.re re,k.rh,ea,fun S1 ρ1 H1 v1 g1 R1 r1=>?_⟩
 cases r1 with
 | @ref _ a' q'=>
  rw[g1.rr _ _ k.q]at q';cases q'
  have fin:dT W S1 ρ1 h1 H1 (fl,env',h2) ⟨fun σ' H'=>H' a=some (.frz od u)∧N.nx σ' (upd H' a u),fun v H'=>H' a=some (.frz od u)∧N.rt v (upd H' a u),fun σ' H'=>H' a=some (.frz od u)∧N.bk σ' (upd H' a u),fun σ' H'=>H' a=some (.frz od u)∧N.ct σ' (upd H' a u)⟩:=fun S2 ρ2 H2 g2 R2=>by
   have x:=k.un (od:=od) (g1.trans g2) R2
   have w:=wq _ _ _ x.g x.R
   cases fl with
   | nx=>exact fun σ' r'=>⟨x.e,w σ' (x.re r')⟩
   | bk=>exact fun σ' r'=>⟨x.e,w σ' (x.re r')⟩
   | ct=>exact fun σ' r'=>⟨x.e,w σ' (x.re r')⟩
   | rt d=>exact fun v r'=>⟨x.e,w v (x.rv r')⟩
  have re1:=(k.re (od:=od) re).go g1 k.rh
  rcases i9 (R:=fun J H2=>H2=H1∧dg W S1 ρ1 h1 H1 none _ J) k g1 R1 (fun J sn=>⟨rfl,sn⟩) with ⟨ks',e,_,sn⟩ | ⟨xs,e,_,sn⟩
  ·exact⟨a,od,rfl,.inl ⟨ks',e,jE R1 re1 sn ef fin⟩⟩
  ·exact⟨a,od,rfl,.inr ⟨xs,e,jE R1 re1 sn ef fin⟩⟩
end
end Ev
end
section
namespace L2
open PySem PySem.Spec PyProof.Rows
section
variable {X:Cx}
def pN (New:Addr→HO→Prop) (Sto:Addr→V→V→Hp→(Hp→Prop)→Prop) (wi:TI) (g:TG) (tt:TT) (tk tv:TE) (vs:List Nat):TE:=fun σ H Q=>wi σ H fun J H1=>∀ D o0,H1 D=none→New D o0→∃ W:Nat→Nat→Hp→Prop,(∃ m,W 0 m (upd H1 D o0))∧∀ i m H,W i m H →
 (J.stop i H∧Q (.ref D) H)∨(J.go i H∧∃ Nx:Hp→Prop,(∀ H',Nx H'→∃ m',m' < m∧W (i + 1) m' H')∧∀ x H',J.yld i H x H'→g x (wipe σ vs) H' fun σ2 H2=>wipe σ2 vs=wipe σ vs∧tt σ2 H2 fun b H3=>
  if b=true then tk σ2 H3 fun y H4=>tv σ2 H4 fun z H5=>Sto D y z H5 Nx else Nx H3)
theorem oW {New:Addr→HO→Prop} {Sto:Addr→V→V→Hp→(Hp→Prop)→Prop} {pins:List (Addr×Obj)} {s:Shared} {σ:St} {H:Hp} {Q:VK} {kx vx tg iter:Expr} {ifs:List Expr} {scope:Scope} {own:List (Str×Nat)} {pos pos':Pos} {wi:TI} {g:TG} {tt:TT} {tk tv:TE} {use:Option (Value→Sem Unit)} {Qf:Value→Shared→Prop}
  (hNew:∀ (H:Hp) (s:Shared),Inv X pins σ H s→∃ o0,New s.heap.objs.size o0∧Inv X pins σ (upd H s.heap.objs.size o0) { s with heap:=s.heap.push { cls:=.type "dict",data:=.dict #[] } })
  (hSto:∀ (s0:Shared) (H0:Hp) (C:Addr) (cl:List (Str×Addr)) (fp:List Addr) (pins:List (Addr×Obj)) (σ':St) (H:Hp) (s:Shared) (D:Addr) (y z:V) (u r:Value) (Nx:Hp→Prop) (Qs:Unit→Shared→Prop) (Es:Value→Shared→Prop),Inv (X.blk s0 H0 scope (compEnvC scope cl C X.env) fp) pins σ' H s→Sto D y z H Nx→RelV y u→RelV z r →
   (∀ H' s',Inv (X.blk s0 H0 scope (compEnvC scope cl C X.env) fp) pins σ' H' s'→Nx H'→Qs () s')→wpAny (model X.prog X.w) X.A (dictSet D u r) Qs Es s)
  (hc:X.calm=true) (hN:X.N.Nodup) (I:Inv X pins σ H s) (hi:PI X tg iter wi) (ok:BlkOk X.N X.env.scope scope own)
  (hg:∀ (s:Shared) (H:Hp) (C:Addr) (cl:List (Str×Addr)) (fp:List Addr),PG (X.blk s H scope (compEnvC scope cl C X.env) fp) tg g) (ht:∀ (s:Shared) (H:Hp) (C:Addr) (cl:List (Str×Addr)) (fp:List Addr),PTs (X.blk s H scope (compEnvC scope cl C X.env) fp) ifs tt)
  (hk:∀ (s:Shared) (H:Hp) (C:Addr) (cl:List (Str×Addr)) (fp:List Addr),PE (X.blk s H scope (compEnvC scope cl C X.env) fp) kx tk)
  (he:∀ (s:Shared) (H:Hp) (C:Addr) (cl:List (Str×Addr)) (fp:List Addr),PE (X.blk s H scope (compEnvC scope cl C X.env) fp) vx tv) (hs:∀ x,foldedSetIterable iter X.env x=pure x)
  (h:pN New Sto wi g tt tk tv (own.map (·.2)) σ H Q)
  (hRR:∀ D C s' m H',Inv X pins σ H' s'→Q (.ref D) H'→s'.heap.Ns C m→FpOk X pins H' C→compPost (model X.prog X.w) X.A X.xe use Qf (.ref D) C (.ok .next) s'):
  wpAny (model X.prog X.w) X.A (comprehension (.DictComp kx vx [⟨tg,iter,ifs,0⟩] scope pos) scope X.env pos' newDict false (eval iter X.env) use) Qf X.xe s:=by
 have hfree:∀ y∈scope.names,y.2 = .free→∃ c,X.env.cells.lookup y.1=some c:=fun y hy e=>by
  rcases ok.free y hy e with k | k
  ·exact I.ok.has _ (.inl k)
  ·exact I.ok.has _ (.inr k)
 refine wpAny_comprehension_free (use:=use) rfl hs (closure_ok hfree) ok.kind (fun y hy e=>by rw[ok.uniq y hy,e])
  (thn (hi.run pins s σ H _ I h) fun xv s1 hx=>thn hx fun itv s2 h2=>?_)
 obtain⟨it,fp,tn,J,H2,e,I2,T,st2,f2,q⟩:=h2
 subst e
 refine wpAny_newObj_type (newEnv_comp ?_)
 generalize hD:s2.heap.objs.size=D
 have hDn:H2 D=none:=I2.hok.fresh (Nat.le_of_eq hD)
 obtain⟨o0,hnew,I30⟩:=hNew H2 s2 I2
 rw[hD]at hnew I30
 obtain⟨W,⟨m0,w0⟩,turn⟩:=q D o0 hDn hnew
 -- the new list
 generalize hs3:({ s2 with heap:=s2.heap.push { cls:=.type "dict",data:=.dict #[] } }:Shared)=s3
 have I3:Inv X pins σ (upd H2 D o0) s3:=by
  rw[← hs3]
  exact I30
 have h3:s3.heap=s2.heap.push { cls:=.type "dict",data:=.dict #[] }:=by rw[← hs3]
 have sz:∀ b∈fp,b < s2.heap.objs.size:=fun b hb=>by
  obtain⟨o,e,_⟩:=T.obj _ _ st2 b hb
  exact Heap.lt_size e
 have f3:∀ b∈fp,FpOk X pins (upd H2 D o0) b∧b < s3.heap.objs.size:=fun b hb=>by
  have hlt:=sz b hb
  refine⟨⟨?_,(f2 b hb).2⟩,by rw[h3,Heap.size_push];exact Nat.lt_succ_of_lt hlt⟩
  rw[upd_ne (by rw[← hD];exact Nat.ne_of_lt hlt)]
  exact (f2 b hb).1
 have st3:tn 0 s3.heap:=T.keep _ _ _ st2 fun b _ o e=>by rw[h3];exact Heap.get?_push_of_some _ e
 have I4:=block_start I3 ok hN f3
 have pg:=hg s3 (upd H2 D o0) s3.heap.objs.size (cellsFrom (s3.heap.objs.size + 1) scope.names (cloFrom X.env.cells scope.names [])) fp
 have pt:=ht s3 (upd H2 D o0) s3.heap.objs.size (cellsFrom (s3.heap.objs.size + 1) scope.names (cloFrom X.env.cells scope.names [])) fp
 have pk:=hk s3 (upd H2 D o0) s3.heap.objs.size (cellsFrom (s3.heap.objs.size + 1) scope.names (cloFrom X.env.cells scope.names [])) fp
 have pe:=he s3 (upd H2 D o0) s3.heap.objs.size (cellsFrom (s3.heap.objs.size + 1) scope.names (cloFrom X.env.cells scope.names [])) fp
 show codeAny _ _ (.compStart (.DictComp kx vx [⟨tg,iter,ifs,0⟩] scope pos) 0 (.ref it) (.ref D) (compEnvC scope (cellsFrom (s3.heap.objs.size + 1) scope.names (cloFrom X.env.cells scope.names [])) s3.heap.objs.size X.env)) (compPost (model X.prog X.w) X.A X.xe use Qf (.ref D) s3.heap.objs.size) { s3 with heap:=pushCells (s3.heap.push { cls:=.type "dict",data:=.dict #[] }) scope.names }
 have hStb:∀ (pins:List (Addr×Obj)) (σ':St) (H:Hp) (s:Shared) (DD:Addr) (y z:V) (u r:Value) (Nx:Hp→Prop) (Qs:Unit→Shared→Prop) (Es:Value→Shared→Prop),Inv (X.blk s3 (upd H2 D o0) scope (compEnvC scope (cellsFrom (s3.heap.objs.size + 1) scope.names (cloFrom X.env.cells scope.names [])) s3.heap.objs.size X.env) fp) pins σ' H s→Sto DD y z H Nx→RelV y u→RelV z r →
   (∀ H' s',Inv (X.blk s3 (upd H2 D o0) scope (compEnvC scope (cellsFrom (s3.heap.objs.size + 1) scope.names (cloFrom X.env.cells scope.names [])) s3.heap.objs.size X.env) fp) pins σ' H' s'→Nx H'→Qs () s')→wpAny (model X.prog X.w) X.A (dictSet DD u r) Qs Es s:=fun pins σ' H s DD y z u r Nx Qs Es=>hSto s3 _ _ _ fp pins σ' H s DD y z u r Nx Qs Es
 have nfp:∀ b∈fp,(upd H2 D o0) b=none:=fun b hb=>(f3 b hb).1.1
 generalize hce:compEnvC scope (cellsFrom (s3.heap.objs.size + 1) scope.names (cloFrom X.env.cells scope.names [])) s3.heap.objs.size X.env=ce at I4 pg pt pk pe hStb ⊢
 have cL:ce.locals=s3.heap.objs.size:=by subst hce;rfl
 generalize hH3:upd H2 D o0=H3 at I3 I4 pg pt pk pe hStb w0 nfp f3
 generalize hs4:({ s3 with heap:=pushCells (s3.heap.push { cls:=.type "dict",data:=.dict #[] }) scope.names }:Shared)=s4 at I4 ⊢
 have st4:tn 0 s4.heap:=T.keep _ _ _ st3 fun b _ o e=>by rw[← hs4];exact pushCells_keeps _ _ _ _ (Heap.get?_push_of_some _ e)
 have stat:∀ {σ':St} {H':Hp} {s':Shared},Inv (X.blk s3 H3 scope ce fp) [] σ' H' s'→(∀ b∈fp,H' b=none)→∀ b∈fp,FpOk (X.blk s3 H3 scope ce fp) [] H' b:=fun {σ' H' s'} I' hn b hb=>
  ⟨hn b hb,(I'.ok.exf b hb).1,I'.ok.exfs b hb,.inl hb,fun x c e=>(I'.ok.exf b hb).2 x c e,fun p hp=>absurd (show p∈([]:List (Addr×Obj))++[] from hp) (by simp)⟩
 have loop:codeAny (model X.prog X.w) X.A (.compLoop (.DictComp kx vx [⟨tg,iter,ifs,0⟩] scope pos) 0 (.ref it) (.ref D) ce) (compPost (model X.prog X.w) X.A X.xe use Qf (.ref D) s3.heap.objs.size) s4:=by
  refine compLoop_anyD (fun n s'=>∃ i H',Inv (X.blk s3 H3 scope ce fp) [] (wipe σ (own.map (·.2))) H' s'∧tn i s'.heap∧(∀ b∈fp,H' b=none)∧W i n H') ?_ m0 ⟨0,H3,I4,st4,nfp,w0⟩
  rintro n s5 ⟨i,H5,I5,st5,n5,w5⟩
  rcases turn i n H5 w5 with ⟨stop,qq⟩ | ⟨go,Nx,hNx,aL⟩
  ·have td:=T.done (X.blk s3 H3 scope ce fp) rfl rfl rfl hc i [] s5 _ H5 (fun _ _=>False) I5 (stat I5 n5) st5 stop
   refine thnF td fun r s6 ⟨hr,I6⟩=>?_
   subst hr
   -- back in the def's context
   have I7:Inv X pins σ H5 s6:=I3.call' (ch:=fp) I6.os I6.base I6.hok I6.bare fun b hb=>⟨(f3 b hb).1.2.2.2.1,(f3 b hb).1.2.1,(f3 b hb).1.2.2.2.2.1,(f3 b hb).1.2.2.2.2.2⟩
   have nC:H5 s3.heap.objs.size=none:=by
    have z:H5 ce.locals=none:=I6.free
    rw[cL]at z
    exact z
   obtain⟨m,hn,_⟩:=I6.loc
   have hn:s6.heap.Ns ce.locals m:=hn
   rw[cL]at hn
   exact hRR D s3.heap.objs.size s6 m H5 I7 qq hn (I3.fpOk (Nat.le_refl _) nC)
  ·have ti:=T.item (X.blk s3 H3 scope ce fp) rfl rfl rfl hc i [] s5 _ H5 (fun _ _=>False) I5 (stat I5 n5) st5 go
   refine thnF ti fun r s6 ⟨u,hr,h6⟩=>?_
   subst hr
   refine thnF h6 fun _ s7 ⟨x,H7,I7,r7,y7,st7,n7⟩=>?_
   have I7':=I7.pinned (stat I7 n7) (T.obj _ _ st7)
   refine thnF (pg.run _ s7 _ H7 x u _ I7' r7 (aL x H7 y7)) fun _ s8 ⟨σ8,H8,I8,hw8,q8⟩=>?_
   refine thnF (pt.run _ s8 σ8 H8 _ I8 q8) fun b s9 ⟨H9,I9,q9⟩=>?_
   -- the turn's end
   have fin:∀ {s':Shared} {H':Hp},Inv (X.blk s3 H3 scope ce fp) ([]++pinsAt fp s7.heap) σ8 H' s'→Nx H'→∃ m,m < n∧∃ i H',Inv (X.blk s3 H3 scope ce fp) [] (wipe σ (own.map (·.2))) H' s'∧tn i s'.heap∧(∀ b∈fp,H' b=none)∧W i m H':=fun {s' H'} I' nx=>by
    obtain⟨m',hm,w'⟩:=hNx H' nx
    have pin':∀ b∈fp,∀ o,s7.heap.get? b=some o→s'.heap.get? b=some o∧H' b=none:=fun b hb o e=>
     let z:=I'.pin (b,o) (List.mem_append_right _ (List.mem_append_right _ (mem_pinsAt hb e)))
     ⟨z.1,z.2.1⟩
    have hl:(wipe σ (own.map (·.2))).length=σ8.length:=by rw[← hw8,wipe_length]
    refine⟨m',hm,i + 1,H',(I'.unpinned (pins:=[])).weak hl (fun j v e=>?_),T.keep _ _ _ st7 fun b hb o e=>(pin' b hb o e).1,fun b hb=>?_,w'⟩
    ·rw[← hw8]at e
     exact (wipe_some e).1
    ·obtain⟨o,e,_⟩:=T.obj _ _ st7 b hb
     exact (pin' b hb o e).2
   cases b with
   | false=>
    simp only[Bool.false_eq_true,if_false]at q9 ⊢
    exact fin I9 q9
   | true=>
    simp only[if_true]at q9 ⊢
    refine thnF (pk.run _ s9 σ8 H9 _ I9 q9) fun z rO ⟨yk,H10,I10,r10,q10⟩=>?_
    refine thnF (pe.run _ rO σ8 H10 _ I10 q10) fun z2 s11 ⟨yv,H11,I11,r11,st11⟩=>?_
    exact hStb _ _ _ _ _ _ _ _ _ _ _ _ I11 st11 r10 r11 fun H12 s12 I12 nx=>fin I12 nx
 exact codeAny_compStart_dict loop (T.self X.A 0 _ _ _ st4 loop)
theorem ps_setDcG {New:Addr→HO→Prop} {Sto:Addr→V→V→Hp→(Hp→Prop)→Prop} {i:Nat} {y:Str} {py:Pos} {kx vx tg iter:Expr} {ifs:List Expr} {scope:Scope} {own:List (Str×Nat)} {pos spos:Pos} {wi:TI} {g:TG} {tt:TT} {tk tv:TE}
  (hNew:∀ (pins:List (Addr×Obj)) (σ:St) (H:Hp) (s:Shared),Inv X pins σ H s→∃ o0,New s.heap.objs.size o0∧Inv X pins σ (upd H s.heap.objs.size o0) { s with heap:=s.heap.push { cls:=.type "dict",data:=.dict #[] } })
  (hSto:∀ (s0:Shared) (H0:Hp) (C:Addr) (cl:List (Str×Addr)) (fp:List Addr) (pins:List (Addr×Obj)) (σ':St) (H:Hp) (s:Shared) (D:Addr) (y z:V) (u r:Value) (Nx:Hp→Prop) (Qs:Unit→Shared→Prop) (Es:Value→Shared→Prop),Inv (X.blk s0 H0 scope (compEnvC scope cl C X.env) fp) pins σ' H s→Sto D y z H Nx→RelV y u→RelV z r →
   (∀ H' s',Inv (X.blk s0 H0 scope (compEnvC scope cl C X.env) fp) pins σ' H' s'→Nx H'→Qs () s')→wpAny (model X.prog X.w) X.A (dictSet D u r) Qs Es s)
  (hc:X.calm=true) (hN:X.N.Nodup) (hy:X.N[i]? = some y) (hyl:X.env.scope.names.lookup y=some .local)
  (hsw:swapsWith (.DictComp kx vx [⟨tg,iter,ifs,0⟩] scope pos) (some (.Name y py)) spos.line X.env=pure true) (hi:PI X tg iter wi) (ok:BlkOk X.N X.env.scope scope own)
  (hg:∀ (s:Shared) (H:Hp) (C:Addr) (cl:List (Str×Addr)) (fp:List Addr),PG (X.blk s H scope (compEnvC scope cl C X.env) fp) tg g) (ht:∀ (s:Shared) (H:Hp) (C:Addr) (cl:List (Str×Addr)) (fp:List Addr),PTs (X.blk s H scope (compEnvC scope cl C X.env) fp) ifs tt)
  (hk:∀ (s:Shared) (H:Hp) (C:Addr) (cl:List (Str×Addr)) (fp:List Addr),PE (X.blk s H scope (compEnvC scope cl C X.env) fp) kx tk)
  (he:∀ (s:Shared) (H:Hp) (C:Addr) (cl:List (Str×Addr)) (fp:List Addr),PE (X.blk s H scope (compEnvC scope cl C X.env) fp) vx tv) (hs:∀ x,foldedSetIterable iter X.env x=pure x:=by intro _;rfl):
  PS X (.Assign [.Name y py] (.DictComp kx vx [⟨tg,iter,ifs,0⟩] scope pos) spos) (tAsg (pN New Sto wi g tt tk tv (own.map (·.2))) (gName i)):=by
 refine⟨fun pins s σ H D I h=>?_⟩
 rw[exec_Assign_Name_used _ _ _ _ hsw]
 refine wpAny_bind (wpAny_standAt (wpAny_bind ?_))
 show wpAny _ X.A (do let _ ← comprehension (.DictComp kx vx [⟨tg,iter,ifs,0⟩] scope pos) scope X.env (firstIterPos [⟨tg,iter,ifs,0⟩] pos) newDict false (eval iter X.env) (some (assign (.Name y py) X.env))) _ _ s
 have h:pN New Sto wi g tt tk tv (own.map (·.2)) σ H (fun x H1=>gName i x σ H1 D.nx):=h
 refine wpAny_bind (thn (oW (Qf:=fun _ s'=>SP X pins D .next s') (fun H s I=>hNew pins σ H s I) hSto hc hN I hi ok hg ht hk he hs h fun L C s' m H' I' q hn f=>?_) fun _ s' hq=>wpAny_pure (wpAny_pure hq))
 show wpAny _ _ (assign (.Name y py) X.env (.ref L)) _ _ _
 refine wpAny_assign_Name (store_ok2 (v:=V.ref L) I' hN hy (.inl hyl) rfl (fun s2 I2 ⟨a,sb,ha⟩=>?_) (.inr hyl))
 obtain⟨f0,f1,f2,f3,f4,f5⟩:=f
 have haC:C≠a:=by
  rcases ha with z | z
  ·rw[z];exact f1
  ·exact fun e=>f4 y a z e.symm
 refine⟨m,hn.sameBut sb haC,fun h3 sb3=>?_⟩
 exact⟨_,H',I2.turned (t':=s2.toks) (fun b o hb e=>(sb3.2 b hb).trans e) f0 f1 f3 f4 f5,q⟩
theorem sw_trueD {kx vx:Expr} {gs:List Comprehension} {scope:Scope} {pos py:Pos} {y:Str} {l:Nat} {env:Env} (hk:env.scope.kind = .function) (hy:env.scope.names.lookup y=some .local) (hl:(py.line == pos.line)=true)
  (ha:(scope.names.any fun (n,k)=>n == y&&(k == .local||k == .cell))=false):swapsWith (.DictComp kx vx gs scope pos) (some (.Name y py)) l env=pure true:=by
 have ky:env.kindOf y=some .local:=hy
 have hb:env.blockKind = .function:=by unfold Env.blockKind;rw[hk];rfl
 unfold swapsWith
 simp only[hb,ky,ha,Expr.pos,hl]
 rfl
end
end L2
end
section
namespace Ev
open PySem
open L2 (upd upd_same upd_ne ne_of ne_of_none Cx VK OpR SqL SqT Key kV Inv valV putK RelV HOk ObjOk IxR SlR TruR PSet PGet CallR MtR EP PE PT PA PW TE TT TA PO thn CX0 pass0 Room FnOk Gl Binds Cls Meth Mk PG PGs TG TGs PI TI Turn FpOk Loc PTs BlkOk PS PSs Ends TS)
section
variable {W:Wd} {X:Cx} {H H' H1:HH} {S S' S1:Addr→Prop} {ρ ρ' ρ1:aq} {h h' h1:Mm} {pos p:Pos} {tg e a b o i:Expr} {fe fa fb fo:Fe} {fi:Fi} {g:Ft} {ks:List Nat}
def mS (W:Wd) (t:Bool) (D:Addr) (o0:L2.HO):Prop:=(t=false∧o0 = .dK [])∨(t=true∧o0=cw W D [])
def rP (W:Wd) (t:Bool) (D:Addr) (y z:L2.V) (H:HH) (Nx:HH→Prop):Prop:=∃ S ρ h kvs k e ho,RH W H S ρ h∧H D=some ho∧RO W H S ρ D (.dic t kvs) ho∧¬ S D∧¬ bo ρ h D∧aR t k=true∧kvs.length < sizeLine∧RV W H S ρ k y∧RV W H S ρ e z ∧
 ∀ ho',RO W (upd H D ho') S ρ D (.dic t (bz kvs k e)) ho'→Nx (upd H D ho')
theorem jo {pins σ s D y z u r Nx t} {Q:Unit→Shared→Prop} {E:Value→Shared→Prop} (xw:XW W X) (I:Inv X pins σ H s) (q:rP W t D y z H Nx) (ry:RelV y u) (rz:RelV z r) (hq:∀ H' s',Inv X pins σ H' s'→Nx H'→Q () s'):wpAny (model X.prog X.w) X.A (dictSet D u r) Q E s:=by
 obtain⟨S,ρ,h,kvs,k,e,ho,R,eD,ro,ns,nl,hk,hl,rk,re,nx⟩:=q
 exact jk xw I R eD ro ns nl hk hl rk re ry rz fun ho' s' ro' I'=>hq _ _ I' (nx ho' ro')
theorem lR {t:Bool} {pins σ s} (I:Inv X pins σ H s):∃ o0,mS W t s.heap.objs.size o0∧Inv X pins σ (upd H s.heap.objs.size o0) { s with heap:=s.heap.push { cls:=.type "dict",data:=.dict #[] } }:=by
 cases t with
 | false=>exact⟨.dK [],.inl ⟨rfl,rfl⟩,I.laid (t':=s.toks) (fun _ _ q=>Heap.get?_push_of_some _ q) (Nat.le_refl _) (L2.dk_empty s.heap I.big)⟩
 | true=>
  refine⟨cw W s.heap.objs.size [],.inr ⟨rfl,rfl⟩,I.laid (t':=s.toks) (fun _ _ q=>Heap.get?_push_of_some _ q) (Nat.le_refl _) ?_⟩
  have hs:(s.heap.objs.size == sysModules)=false:=beq_eq_false_iff_ne.mpr (Ne.symm (Nat.ne_of_lt I.big))
  refine⟨⟨hs,Nat.zero_le _,_,#[],0,Heap.get?_push_size _ rfl,⟨rfl,rfl,rfl⟩,rfl,rfl,List.nodup_nil⟩,⟨_,Heap.get?_push_size _ rfl⟩,fun h1 h2 q st=>?_⟩
  obtain⟨q1,q2,o',es',ep',q3,q4⟩:=q
  exact⟨q1,q2,o',es',ep',st _ q3,q4⟩
abbrev fF (g:Ft) (fc:Fc) (fk fv:Fe) (env:Env):D→Mm→Option (Option (D×D)×Mm):=fun x h=>match g x env h with
 | some (env2,h2)=>(match fc env2 h2 with
  | some (true,h3)=>(match fk env2 h3 with
   | some (y,h4)=>(match fv env2 h4 with
    | some (u,h5)=>some (some (y,u),h5)
    | none=>none)
   | none=>none)
  | some (false,h3)=>some (none,h3)
  | none=>none)
 | none=>none
theorem iV {z t:Bool} {own:List Nat} {fc:Fc} {fk fv:Fe} {env:Env} {σ:L2.St} {xs:List D} {w} {all:List (D×D)} {hE:Mm} {J:L2.It} {Q:VK} {Dn:Addr} {o0:L2.HO} (hks:∀ i∈ks,i∈own)
  (R1:RH W H1 S1 ρ1 h1) (re1:RE W H1 S1 ρ1 env σ) (sn:dg W S1 ρ1 h1 H1 w xs J) (ec:fQ t (fun h=>stay h w) (fF g fc fk fv (aI env own)) xs [] h1=some (all,hE))
  (wq:aN W S1 ρ1 h1 H1 (bj z (.dic t all) hE).1 (bj z (.dic t all) hE).2 Q) (hD:H1 Dn=none) (hN:mS W t Dn o0):
  ∃ Wt:Nat→Nat→HH→Prop,(∃ m,Wt 0 m (upd H1 Dn o0))∧∀ i m H,Wt i m H →
   (J.stop i H∧Q (.ref Dn) H)∨(J.go i H∧∃ Nx:HH→Prop,(∀ H',Nx H'→∃ m',m' < m∧Wt (i + 1) m' H')∧∀ x H',J.yld i H x H'→tT W ks g x (L2.wipe σ own) H' fun σ2 H2=>L2.wipe σ2 own=L2.wipe σ own∧tC W fc σ2 H2 fun b H3=>
    if b=true then tE W fk σ2 H3 fun y H4=>tE W fv σ2 H4 fun z H5=>rP W t Dn y z H5 Nx else Nx H3):=by
 obtain⟨ns1,nl1⟩:=dY R1 hD
 have ro0:∀ H S ρ,RO W H S ρ Dn (.dic t []) o0:=fun H S ρ=>by
  rcases hN with ⟨rfl,rfl⟩ | ⟨rfl,rfl⟩
  ·exact .dicK .nil
  ·exact .dicT .nil
 let Wit:Nat→HH→Prop:=fun i H2=>∃ S2 ρ2 h2 acc ho,Go S1 ρ1 h1 H1 S2 ρ2 h2 H2∧RH W H2 S2 ρ2 h2∧H2 Dn=some ho∧RO W H2 S2 ρ2 Dn (.dic t acc) ho∧¬ S2 Dn∧¬ bo ρ2 h2 Dn ∧
  fQ t (fun h=>stay h w) (fF g fc fk fv (aI env own)) (xs.drop i) acc h2=some (all,hE)
 refine⟨fun i m H2=>m=xs.length - i∧i≤xs.length∧Wit i H2,⟨xs.length,rfl,Nat.zero_le _,S1,ρ1,h1,[],o0,Go.upd .refl hD,R1.fo ns1 nl1,upd_same,ro0 _ _ _,ns1,nl1,ec⟩,?_⟩
 rintro i m H2 ⟨rfl,hi,S2,ρ2,h2,acc,ho,g2,R2,eD,ro,nsD,nlD,ev⟩
 by_cases hlt:i < xs.length
 ·rw[bM hlt]at ev
  simp only[fQ]at ev
  obtain⟨st,ev⟩:=aa ev
  obtain⟨_,sn2⟩:=sn i S2 ρ2 h2 H2 (g2.w R1) R2 st
  obtain⟨go,yl⟩:=sn2 xs[i] (by simp[hlt])
  refine .inr ⟨go,Wit (i + 1),fun H' w'=>⟨xs.length - (i + 1),by omega,rfl,hlt,w'⟩,fun v H3 y=>?_⟩
  obtain⟨S3,g3,R3,r3⟩:=yl v H3 y
  obtain⟨eD3,nsD3,nlD3⟩:=g3.foreign eD nsD nlD
  have ro3:RO W H3 S3 ρ2 Dn (.dic t acc) ho:=ro.mono' g3.sS (g3.s2 R2) g3.rr
  generalize et:fF g fc fk fv (aI env own) xs[i] h2=tt at ev
  simp only[fF]at et
  split at et
  rotate_left
  ·subst et;cases ev
  rename_i env2 h4 eg
  have g13:=g2.trans g3
  have re3:RE W H3 S3 ρ2 env σ:=re1.go g13 R1
  refine⟨aI env own,S3,ρ2,h2,xs[i],env2,h4,re3.wipe own,R3,r3,eg,fun S4 ρ4 H4 σ4 g4 R4 re4 w4=>⟨by rw[w4 own hks,dS],?_⟩⟩
  split at et
  ·rename_i h5 ef
   split at et
   rotate_left
   ·subst et;cases ev
   rename_i y' h6 ek
   split at et
   rotate_left
   ·subst et;cases ev
   rename_i u' h7 eu
   subst et
   dsimp only at ev
   obtain⟨hk,ev⟩:=aa ev
   rw[Bool.and_eq_true]at hk
   refine⟨env2,S4,ρ4,h4,true,h5,re4,R4,ef,fun S5 ρ5 H5 g5 R5=>?_⟩
   show ite _ _ _
   rw[if_pos rfl]
   refine⟨env2,S5,ρ5,h5,y',h6,re4.go g5 R4,R5,ek,fun S6 ρ6 H6 v6 g6 R6 r6=>?_⟩
   refine⟨env2,S6,ρ6,h6,u',h7,(re4.go g5 R4).go g6 R5,R6,eu,fun S7 ρ7 H7 v7 g7 R7 r7=>?_⟩
   have g37:=((g4.trans g5).trans g6).trans g7
   obtain⟨eD7,nsD7,nlD7⟩:=g37.foreign eD3 nsD3 nlD3
   have ro7:RO W H7 S7 ρ7 Dn (.dic t acc) ho:=ro3.mono' g37.sS (g37.s2 R3) g37.rr
   refine⟨S7,ρ7,h7,acc,y',u',ho,R7,eD7,ro7,nsD7,nlD7,hk.1,?_,r6.go g7 R6,r7,fun ho' ro'=>⟨S7,ρ7,h7,bz acc y' u',ho',(g13.trans g37).upd hD,R7.fo nsD7 nlD7,upd_same,ro',nsD7,nlD7,ev⟩⟩
   have:=aK hk.2
   omega
  ·rename_i h5 ef
   subst et
   dsimp only at ev
   refine⟨env2,S4,ρ4,h4,false,_,re4,R4,ef,fun S5 ρ5 H5 g5 R5=>?_⟩
   show ite _ _ _
   rw[if_neg Bool.false_ne_true]
   have g35:=g4.trans g5
   obtain⟨eD5,nsD5,nlD5⟩:=g35.foreign eD3 nsD3 nlD3
   exact⟨S5,ρ5,_,acc,ho,g13.trans g35,R5,eD5,ro3.mono' g35.sS (g35.s2 R3) g35.rr,nsD5,nlD5,ev⟩
  ·subst et;cases ev
 ·have e:i=xs.length:=by omega
  subst e
  rw[List.drop_length]at ev
  simp only[fQ]at ev
  obtain⟨st,ev⟩:=aa ev
  cases ev
  obtain⟨stop,_⟩:=sn xs.length S2 ρ2 _ H2 (g2.w R1) R2 st
  refine .inl ⟨stop (Nat.le_refl _),?_⟩
  cases z with
  | true=>
   obtain⟨g4,R4⟩:=jW g2 R2 hD eD nlD
   have ro4:=ro.mono' (S':=Sp S2 Dn) (fun _ z=>.inl z) (fun _ _ _ e=>e) (fun _ _ e=>e)
   refine wq _ _ _ _ g4 R4 ?_
   cases ro4 with
   | dicK r=>exact .dicK (.inr rfl) (.inl eD) r
   | dicT r=>exact .dicT (.inr rfl) (.inl eD) r
  | false=>
   obtain⟨g4,R4⟩:=kA g2 R2 hD eD nsD nlD ro
   exact wq _ _ _ _ g4 R4 (.ref (by unfold aG;rw[if_pos rfl]))
abbrev nt (n:Nat) (z t:Bool) (own:List Nat) (fi:Fi) (g:Ft) (fc:Fc) (fk fv:Fe):bR:=fun env h=>match fi env h with
  | some (xs,w,h1)=>(match fQ t (fun h=>stay h w) (fF g fc fk fv (aI env own)) xs [] h1 with
   | some (kvs,h2)=>some (.nx,ay env n (bj z (.dic t kvs) h2).1,(bj z (.dic t kvs) h2).2)
   | none=>none)
  | none=>none
abbrev nS (n:Nat) (z t:Bool) (own:List Nat) (fe:Fe) (g:Ft) (fc:Fc) (fk fv:Fe):bR:=fun env h=>match fe env h with
  | some (.ref m,_)=>(match h.get m with
   | some (.dic t0 kvs0)=>(match fe env (h.del m) with
    | some (.ref m',h1)=>bif Nat.beq m' m then (match fQ t (fun h=>stay h none) (fF g fc fk fv (aI env own)) (kvs0.map (·.1)) [] h1 with
     | some (kvs,h2)=>some (.nx,ay env n (bj z (.dic t kvs) h2).1,(bj z (.dic t kvs) h2).2.put m (.dic t0 kvs0))
     | none=>none) else none
    | _=>none)
   | _=>none)
  | _=>none
section
variable {z t:Bool} {n:Nat} {y:Str} {py spos:Pos} {kx vx iter:Expr} {ifs:List Expr} {scope:Scope} {own:List (Str×Nat)} {fc:Fc} {fk fv:Fe}
theorem oz (xw:XW W X) (xb:∀ (s:Shared) (H:HH) (C:Addr) (cl:List (Str×Addr)) (fp:List Addr),XW W (X.blk s H scope (compEnvC scope cl C X.env) fp)) (hN:X.N.Nodup) (hy:X.N[n]? = some y) (hyl:X.env.scope.names.lookup y=some .local) (hk:X.env.scope.kind = .function)
  (hl:(py.line == pos.line)=true) (hany:(scope.names.any fun (n,k)=>n == y&&(k == .local||k == .cell))=false) (hi:PI X tg iter (tI W fi)) (ok:BlkOk X.N X.env.scope scope own)
  (hg:∀ (s:Shared) (H:HH) (C:Addr) (cl:List (Str×Addr)) (fp:List Addr),PG (X.blk s H scope (compEnvC scope cl C X.env) fp) tg (tT W ks g)) (ht:∀ (s:Shared) (H:HH) (C:Addr) (cl:List (Str×Addr)) (fp:List Addr),PTs (X.blk s H scope (compEnvC scope cl C X.env) fp) ifs (tC W fc))
  (hkk:∀ (s:Shared) (H:HH) (C:Addr) (cl:List (Str×Addr)) (fp:List Addr),PE (X.blk s H scope (compEnvC scope cl C X.env) fp) kx (tE W fk))
  (he:∀ (s:Shared) (H:HH) (C:Addr) (cl:List (Str×Addr)) (fp:List Addr),PE (X.blk s H scope (compEnvC scope cl C X.env) fp) vx (tE W fv)) (pl:aE iter=true) (hks:∀ i∈ks,i∈own.map (·.2)):
  PS X (.Assign [.Name y py] (.DictComp kx vx [⟨tg,iter,ifs,0⟩] scope pos) spos) (tS W (nt n z t (own.map (·.2)) fi g fc fk fv)):=by
 refine (L2.ps_setDcG (New:=mS W t) (Sto:=rP W t) (fun pins σ H s I=>lR I) (fun s0 H0 C cl fp pins σ' H s D y z u r Nx Qs Es I q ry rz hq=>jo (X:=X.blk s0 H0 scope (compEnvC scope cl C X.env) fp) (xb s0 H0 C cl fp) I q ry rz hq) xw.calm hN hy hyl (L2.sw_trueD hk hyl hl hany) hi ok hg ht hkk he (da pl)).sub fun N σ H hw=>?_
 obtain⟨env,S,ρ,h,r,re,R,hf,wq⟩:=hw
 unfold nt at hf
 split at hf
 rotate_left
 ·cases hf
 rename_i xs w h1 ea
 split at hf
 rotate_left
 ·cases hf
 rename_i all hE ec
 cases hf
 refine⟨env,S,ρ,h,xs,w,h1,re,R,ea,fun S1 ρ1 H1 J g1 R1 sn Dn o0 hD hn=>?_⟩
 exact iV (z:=z) hks R1 (re.go g1 R) sn ec (fun S2 ρ2 H2 v g2 R2 r2=>wq.nx (g1.trans g2) R2 ((re.go (g1.trans g2) R).set r2)) hD hn
theorem oE (xw:XW W X) (xb:∀ (s:Shared) (H:HH) (C:Addr) (cl:List (Str×Addr)) (fp:List Addr),XW W (X.blk s H scope (compEnvC scope cl C X.env) fp)) (hN:X.N.Nodup) (hy:X.N[n]? = some y) (hyl:X.env.scope.names.lookup y=some .local) (hk:X.env.scope.kind = .function)
  (hl:(py.line == pos.line)=true) (hany:(scope.names.any fun (n,k)=>n == y&&(k == .local||k == .cell))=false) (hi:PE X iter (tE W fe)) (ok:BlkOk X.N X.env.scope scope own)
  (hg:∀ (s:Shared) (H:HH) (C:Addr) (cl:List (Str×Addr)) (fp:List Addr),PG (X.blk s H scope (compEnvC scope cl C X.env) fp) tg (tT W ks g)) (ht:∀ (s:Shared) (H:HH) (C:Addr) (cl:List (Str×Addr)) (fp:List Addr),PTs (X.blk s H scope (compEnvC scope cl C X.env) fp) ifs (tC W fc))
  (hkk:∀ (s:Shared) (H:HH) (C:Addr) (cl:List (Str×Addr)) (fp:List Addr),PE (X.blk s H scope (compEnvC scope cl C X.env) fp) kx (tE W fk))
  (he:∀ (s:Shared) (H:HH) (C:Addr) (cl:List (Str×Addr)) (fp:List Addr),PE (X.blk s H scope (compEnvC scope cl C X.env) fp) vx (tE W fv)) (pl:aE iter=true) (hks:∀ i∈ks,i∈own.map (·.2)):
  PS X (.Assign [.Name y py] (.DictComp kx vx [⟨tg,iter,ifs,0⟩] scope pos) spos) (tS W (nS n z t (own.map (·.2)) fe g fc fk fv)):=by
 refine (L2.ps_lock (L2.ps_setDcG (New:=mS W t) (Sto:=rP W t) (fun pins σ H s I=>lR I) (fun s0 H0 C cl fp pins σ' H s D y z u r Nx Qs Es I q ry rz hq=>jo (X:=X.blk s0 H0 scope (compEnvC scope cl C X.env) fp) (xb s0 H0 C cl fp) I q ry rz hq) xw.calm hN hy hyl (L2.sw_trueD hk hyl hl hany) (ku (W:=W) hi) ok hg ht hkk he (da pl))).sub fun N σ H hw=>?_
 obtain⟨env,S,ρ,h,r,re,R,hf,wq⟩:=hw
 unfold nS at hf
 split at hf
 rotate_left
 ·cases hf
 rename_i m h0 ea0
 split at hf
 rotate_left
 ·cases hf
 rename_i t0 kvs0 hn
 split at hf
 rotate_left
 ·cases hf
 rename_i m' h1 ea
 obtain⟨hnn,hf⟩:=aa hf
 have hnn:=Nat.eq_of_beq_eq_true hnn
 subst hnn
 split at hf
 rotate_left
 ·cases hf
 rename_i all hE ec
 cases hf
 obtain⟨a,u,k⟩:=nA R hn
 refine⟨a,u,k.e,k.nl,fun od=>?_⟩
 refine⟨env,S,ρ,h.del m',.ref m',h1,k.re re,k.rh,ea,fun S1 ρ1 H1 v1 g1 R1 r1=>?_⟩
 cases r1 with
 | @ref _ a' q'=>
  rw[g1.rr _ _ k.q]at q';cases q'
  have re1:=(k.re (od:=od) re).go g1 k.rh
  have wish:aN W S1 ρ1 h1 H1 (bj z (.dic t all) hE).1 (bj z (.dic t all) hE).2 fun x H2=>L2.gName n x σ H2 fun σ' H'=>H' a=some (.frz od u)∧N.nx σ' (upd H' a u):=fun S2 ρ2 H2 v g2 R2 r2=>by
   have x:=k.un (od:=od) (g1.trans g2) R2
   exact⟨x.e,wq _ _ _ x.g x.R _ (x.re ((re1.go g2 R1).set r2))⟩
  rcases i9 (R:=fun J H2=>H2=H1∧dg W S1 ρ1 h1 H1 none _ J) k g1 R1 (fun J sn=>⟨rfl,sn⟩) with ⟨ks',e,_,sn⟩ | ⟨xs,e,_,sn⟩
  ·exact⟨a,od,rfl,.inl ⟨ks',e,fun Dn o0 hD hn=>iV (z:=z) hks R1 re1 sn ec wish hD hn⟩⟩
  ·exact⟨a,od,rfl,.inr ⟨xs,e,fun Dn o0 hD hn=>iV (z:=z) hks R1 re1 sn ec wish hD hn⟩⟩
end
end
section
variable {W:Wd} {X:Cx} {H H' H1:HH} {S S' S1:Addr→Prop} {ρ ρ' ρ1:aq} {h h' h1:Mm} {pos:Pos} {a b o i:Expr} {fa fb fo fi:Fe} {pins:List (Addr×Obj)} {σ:L2.St} {s:Shared} {f:Addr} {fd:FuncData} {ps:List Str} {k:Nat} {g:List D→Mm→Option (D×Mm)}
theorem lX (I:Inv X pins σ H s) {x dx C:Addr} {fs} (e:H x=some (.ins C dx fs)):∃ od,PySem.W.InstAt s.heap x (PySem.W.instObj C dx) C (some od):=by
 obtain⟨mA,O,_⟩:=L2.ins_get I.hok e
 obtain⟨od,J,_⟩:=O.look
 exact⟨od,J⟩
theorem kg {Q:VK} {us:List Value} {vs:List L2.V} (F:FnOk X.prog X.w X.K X.mg X.base CX0 k f fd ps (be W ps.length g)) (hr:Room k X.A) (hb:Binds X.K fd ps []) (I:Inv X pins σ H s) (r:L2.Vals vs us) (q:be W ps.length g vs H Q L2.E0):wpAny (model X.prog X.w) X.A (PySem.call (.ref f) us) (EP X pins σ Q) X.xe s:=
 L2.run_fn (dvs:=[]) (E:=L2.E0) F hr hb .nil pass0 I r (by rw[List.append_nil];exact q)
theorem uw {Q:VK} {us:List Value} {vs:List L2.V} (F:FnOk X.prog X.w X.K X.mg X.base CX0 k f fd ps (be W ps.length g)) (hr:Room (k + 1) X.A) (hb:Binds X.K fd ps []) (I:Inv X pins σ H s) (r:L2.Vals vs us) (q:be W ps.length g vs H Q L2.E0):wpAny (model X.prog X.w) X.A.in1 (PySem.call (.ref f) us) (EP X pins σ Q) X.xe s:=by
 have r2:L2.Vals vs (us++[]):=by rw[List.append_nil];exact r
 have hl:(us++[]).length=ps.length:=by rw[← r2.length];exact F.len _ _ _ _ q
 refine wpAny_call (codeAny_mono (F.run X.A.in1 X.stack s H ⟨us,[]⟩ (us++[]) vs Q L2.E0 hr.in1 I.env0.in1 (hb s us I.kIn hl) r2 q) fun r s' hq=>?_)
 cases r with
 | error e=>exact (pass0:L2.Passes CX0 X L2.E0) pins σ H s e s' I hq
 | ok fl=>
  cases fl with
  | ret u=>exact I.after hq
  | next=>exact False.elim hq
  | brk=>exact False.elim hq
  | cont=>exact False.elim hq
theorem qE {md:Md} {c:Nat} (xw:XW W X) (ho:PE X o (tE W fo)) (hi:PE X i (tE W fi)) (hm:Meth W.K (W.cA c) "__getitem__" f) (hfn:PySem.W.fnIn W.K f=true) (F:FnOk X.prog X.w X.K X.mg X.base CX0 k f fd ps (be W ps.length g)) (ar:Ar ps.length g) (hr:Room (k + 1) X.A) (hb:Binds X.K fd ps []) (pl:aE i=true):
  PE X (.Subscript o i pos) (tE W fun env h=>match fo env h with
  | some (x,h1)=>(match fi env h1 with
   | some (y,h2)=>(match aO h2 x with
    | some (c',_)=>bif Nat.beq c c' then aU md g [x,y] h2 else none
    | none=>none)
   | none=>none)
  | none=>none):=by
 refine⟨fun pins s σ H Q I hw=>?_⟩
 obtain⟨env,S,ρ,h,d,h',re,R,hf,wq⟩:=hw
 try dsimp only at hf
 split at hf
 rotate_left
 ·cases hf
 rename_i x h1 ea
 split at hf
 rotate_left
 ·cases hf
 rename_i y h2 eb
 split at hf
 rotate_left
 ·cases hf
 rename_i c' gs ei
 obtain⟨hc1,hf2⟩:=aa hf
 clear hf
 have hc1:=Nat.eq_of_beq_eq_true hc1
 subst hc1
 have hf:=hf2
 refine PyProof.Rows.Subscript_ (L2.binT ho hi I (R:=fun x y H2=>∃ dx gs' a,x = .ref a∧H2 a=some (.ins (W.cA c) dx gs')∧be W ps.length g [x,y] H2 Q L2.E0) ?_ fun v u s2 x2 y2 H2 I2 rx ry q=>?_)
 ·refine⟨env,S,ρ,h,x,h1,re,R,ea,fun S1 ρ1 H1 v1 g1 R1 r1=>?_⟩
  refine⟨env,S1,ρ1,h1,y,h2,re.go g1 R,R1,eb,fun S2 ρ2 H2 v2 g2 R2 r2=>?_⟩
  have rx:=r1.go g2 R1
  obtain⟨a,dx,gs',rfl,e1,rf⟩:=fB ei R2 rx
  obtain⟨h0,r0,e0⟩:=dE hf
  have hr3:RVs W H2 S2 ρ2 [x,y] [L2.V.ref a,v2]:=.cons rx (.cons r2 .nil)
  exact⟨dx,gs',a,rfl,e1,du R2 hr3 (by rw[← hr3.len];exact ar _ _ _ e0) hf (aN.pre (g1.trans g2) wq)⟩
 ·obtain⟨dx,gs',a,rfl,e1,q⟩:=q
  obtain rfl:v=Value.ref a:=rx
  obtain⟨od,J⟩:=lX I2 e1
  obtain⟨m,hF⟩:=I2.fr
  have hs:PySem.W.findIn X.K (.ref (W.cA c)) "__getitem__" = some (some (.ref f)):=by rw[xw.K];exact hm.at_
  refine PySem.W.sub_K hF I2.ok.mod.kin J hs (by rw[xw.K];exact hfn) (by rw[xw.K];exact hm.fn) (uw (us:=[.ref a,u]) (vs:=[.ref a,y2]) F hr hb I2 (.cons rfl (.cons ry .nil)) q) ?_
  cases i<;>first | rfl | cases pl
abbrev kf (neg:Bool) (md:Md) (c:Nat) (g:List D→Mm→Option (D×Mm)) (fa fo:Fe):Fe:=fun env h=>match fa env h with
  | some (y,h1)=>(match fo env h1 with
   | some (w,h2)=>(match aO h2 w with
    | some (c',_)=>bif Nat.beq c c' then (match aU md g [w,y] h2 with
     | some (.bl k,h3)=>some (.bl (bif neg then !k else k),h3)
     | _=>none) else none
    | none=>none)
   | none=>none)
  | none=>none
theorem vD {neg:Bool} {md:Md} {c:Nat} {env:Env} {h:Mm} {d:D} {h':Mm} (e:kf neg md c g fa fo env h=some (d,h')):∃ k,d = .bl k:=by
 unfold kf at e
 split at e
 rotate_left
 ·cases e
 split at e
 rotate_left
 ·cases e
 split at e
 rotate_left
 ·cases e
 obtain⟨_,e2⟩:=aa e
 clear e
 split at e2
 ·cases e2;exact⟨_,rfl⟩
 ·cases e2
theorem o3 {op:CmpOp} {r:L2.R2} {F:Fe} (hop:OpR X (compareOp op) r) (ha:PE X a (tE W fa)) (ho:PE X o (tE W fo)) (hm:behindInMarks op o=false) (key:∀ σ H Q,tE W F σ H Q→L2.tOp r (tE W fa) (tE W fo) σ H Q) (hbl:∀ env h d h',F env h=some (d,h')→∃ k,d = .bl k):
  PE X (.Compare a [op] [o] pos) (tE W F)∧PT X (.Compare a [op] [o] pos) (tC W fun env h=>match F env h with | some (d,h1)=>(match cu h1 d with | some k=>some (k,h1) | none=>none) | none=>none):=by
 refine⟨(L2.pe_cmpR hop ha ho hm).sub key,(L2.pt_cmpR hop ha ho hm).sub fun σ H Q hw=>?_⟩
 obtain⟨env,S,ρ,h,k,h',re,R,hf,wq⟩:=hw
 try dsimp only at hf
 split at hf
 rotate_left
 ·cases hf
 rename_i d h1 e
 obtain⟨k',rfl⟩:=hbl _ _ _ _ e
 cases hf
 refine key σ H _ ⟨env,S,ρ,h,_,_,re,R,e,fun S1 ρ1 H1 v g1 R1 r1=>?_⟩
 cases r1
 exact⟨_,rfl,wq _ _ _ g1 R1⟩
theorem lY {neg:Bool} {md:Md} {c:Nat} (xw:XW W X) (ha:PE X a (tE W fa)) (ho:PE X o (tE W fo)) (hm:Meth W.K (W.cA c) "__contains__" f) (F:FnOk X.prog X.w X.K X.mg X.base CX0 k f fd ps (be W ps.length g)) (ar:Ar ps.length g) (hr:Room k X.A) (hb:Binds X.K fd ps []) (pl:aE o=true):
  PE X (.Compare a [bif neg then .NotIn else .In] [o] pos) (tE W (kf neg md c g fa fo)) ∧
  PT X (.Compare a [bif neg then .NotIn else .In] [o] pos) (tC W fun env h=>match (kf neg md c g fa fo) env h with | some (d,h1)=>(match cu h1 d with | some k=>some (k,h1) | none=>none) | none=>none):=by
 let r:L2.R2:=fun x y H2 Q2=>∃ dx gs' a,y = .ref a∧H2 a=some (.ins (W.cA c) dx gs')∧be W ps.length g [y,x] H2 (fun z H3=>∃ k,z = .bl k∧Q2 (.bl (bif neg then !k else k)) H3) L2.E0
 have op:OpR X (compareOp (bif neg then .NotIn else .In)) r:=by
  intro pins s σ H x y v u Q I rx ry q
  obtain⟨dx,gs',a,rfl,e1,q⟩:=q
  obtain rfl:u=Value.ref a:=ry
  obtain⟨od,J⟩:=lX I e1
  obtain⟨m,hF⟩:=I.fr
  have hs:PySem.W.findIn X.K (.ref (W.cA c)) "__contains__" = some (some (.ref f)):=by rw[xw.K];exact hm.at_
  have hfn:PySem.W.isFn X.K (.ref f)=true:=by rw[xw.K];exact hm.fn
  cases neg with
  | false=>
   refine PySem.W.in_K hF I.ok.mod.kin J hs hfn (wpAny_mono (kg (us:=[.ref a,v]) (vs:=[.ref a,x]) F hr hb I (.cons rfl (.cons rx .nil)) q) (fun w s' ⟨z,H3,I3,rz,k,ez,q3⟩=>?_) fun _ _ e=>e)
   subst ez
   obtain rfl:w=Value.bool k:=rz
   exact wpAny_pure ⟨.bl k,H3,I3,rfl,q3⟩
  | true=>
   refine PySem.W.notIn_K hF I.ok.mod.kin J hs hfn (wpAny_mono (kg (us:=[.ref a,v]) (vs:=[.ref a,x]) F hr hb I (.cons rfl (.cons rx .nil)) q) (fun w s' ⟨z,H3,I3,rz,k,ez,q3⟩=>?_) fun _ _ e=>e)
   subst ez
   obtain rfl:w=Value.bool k:=rz
   exact wpAny_pure ⟨.bl (!k),H3,I3,rfl,q3⟩
 refine o3 op ha ho (by cases neg<;>exact hX pl) (fun σ H Q hw=>?_) fun _ _ _ _ e=>vD e
 obtain⟨env,S,ρ,h,d,h',re,R,hf,wq⟩:=hw
 unfold kf at hf
 try dsimp only at hf
 split at hf
 rotate_left
 ·cases hf
 rename_i y h1 ea
 split at hf
 rotate_left
 ·cases hf
 rename_i w h2 eb
 split at hf
 rotate_left
 ·cases hf
 rename_i c' gs ei
 obtain⟨hc1,hf2⟩:=aa hf
 clear hf
 have hc1:=Nat.eq_of_beq_eq_true hc1
 subst hc1
 split at hf2
 rotate_left
 ·cases hf2
 rename_i k0 h3 er
 cases hf2
 refine⟨env,S,ρ,h,y,h1,re,R,ea,fun S1 ρ1 H1 v1 g1 R1 r1=>?_⟩
 refine⟨env,S1,ρ1,h1,w,h2,re.go g1 R,R1,eb,fun S2 ρ2 H2 v2 g2 R2 r2=>?_⟩
 obtain⟨a',dx,gs',rfl,e1,rf⟩:=fB ei R2 r2
 obtain⟨h0,r0,e0⟩:=dE er
 have hr3:RVs W H2 S2 ρ2 [w,y] [L2.V.ref a',v1]:=.cons r2 (.cons (r1.go g2 R1) .nil)
 refine⟨dx,gs',a',rfl,e1,du R2 hr3 (by rw[← hr3.len];exact ar _ _ _ e0) er fun S3 ρ3 H3 v3 g3 R3 r3=>?_⟩
 cases r3
 exact⟨_,rfl,wq _ _ _ _ ((g1.trans g2).trans g3) R3 (.bl _)⟩
end
open L2 (upd upd_same upd_ne ne_of ne_of_none Cx VK OpR SqL SqT Key kV Inv valV putK RelV HOk ObjOk IxR SlR TruR PSet PGet CallR MtR EP PE PT PA PK PW TE TT TA PO thn CX0 pass0 Room FnOk Gl Binds Cls Meth Mk)
section
variable {W:Wd} {X:Cx} {H H' H1:HH} {S S' S1:Addr→Prop} {ρ ρ' ρ1:aq} {h h' h1:Mm} {pos apos:Pos} {a b o i:Expr} {fa fb fo fi:Fe} {fs:Fa} {pins:List (Addr×Obj)} {σ:L2.St} {s:Shared} {f:Addr} {fd:FuncData} {ps:List Str} {k:Nat} {g:List D→Mm→Option (D×Mm)} {x:Str} {p:Pos}
theorem u8:PK X [] (bK W F0):=⟨fun pos pins s σ H Q I hw=>by
 obtain⟨env,S,ρ,h,ds,h',re,R,e,w⟩:=hw
 cases e
 exact wpAny_pure ⟨[],H,I,.nil,w _ _ _ _ .refl R .nil⟩⟩
theorem v9 {e:Expr} {n:Str} {p:Pos} {kws:List Keyword} {fe:Fe} (he:PE X e (tE W fe)) (hs:PK X kws (bK W fs)):
  PK X (⟨some n,e,p⟩ :: kws) (bK W fun env h=>match fe env h with | some (d,h1)=>(match fs env h1 with | some (ds,h2)=>some (d :: ds,h2) | none=>none) | none=>none):=by
 have c:=L2.pk_cons (kpos:=p) (nm:=some n) he hs
 refine⟨fun pos pins s σ H Q I hw=>c.run pos pins s σ H Q I ?_⟩
 obtain⟨env,S,ρ,h,ds,h',re,R,hf,wq⟩:=hw
 try dsimp only at hf
 split at hf
 rotate_left
 ·cases hf
 rename_i d h1 ea
 split at hf
 rotate_left
 ·cases hf
 rename_i ds' h2 eb
 cases hf
 refine⟨env,S,ρ,h,d,h1,re,R,ea,fun S1 ρ1 H1 v1 g1 R1 r1=>?_⟩
 exact⟨env,S1,ρ1,h1,ds',_,re.go g1 R,R1,eb,fun S2 ρ2 H2 vs g2 R2 r2=>wq _ _ _ _ (g1.trans g2) R2 (.cons (r1.go g2 R1) r2)⟩
end
open PySem PySem.Spec PyProof.Rows
open L2 (upd upd_same upd_ne ne_of ne_of_none Cx VK OpR SqL SqT Key kV Inv valV putK RelV HOk ObjOk IxR SlR TruR PSet PGet CallR MtR EP PE PT PA PW TE TT TA PO thn CX0 pass0 Room FnOk Gl Binds Cls Meth Mk PG PGs TG TGs PI TI Turn FpOk Loc PTs BlkOk PS PSs Ends TS PK)
section
variable {W:Wd} {X:Cx} {p pos apos:Pos} {es:List Expr} {e o d:Expr} {fs:Fa} {fo fe fd:Fe}
def JW (W:Wd) (X:Cx) (es:List Expr) (f:Fa):Prop:=∃ ts,L2.PJ X es ts∧∀ (acc:Str) (σ:L2.St) (H:HH) (Q:Str→HH→Prop),(∃ env S ρ h xs ys h',RE W H S ρ env σ∧RH W H S ρ h∧f env h=some (xs,h')∧jt xs=some ys∧acc.length + (ys.map (·.length)).sum≤most ∧
 ∀ S' ρ' H',Go S ρ h H S' ρ' h' H'→RH W H' S' ρ' h'→Q (ys.foldl (·++·) acc) H')→L2.tJs ts acc σ H Q
theorem uR:JW W X [] F0:=⟨[],.nil,fun acc σ H Q ⟨env,S,ρ,h,xs,ys,h',re,R,hf,hy,hl,q⟩=>by
 cases hf
 cases hy
 exact q _ _ _ .refl R⟩
theorem mj (a b:Str):(a++b).length=a.length + b.length:=by
 show (a.cps++b.cps).size=a.cps.size + b.cps.size
 exact Array.size_append ..
theorem th (he:PE X e (tE W fe)) (hs:JW W X es fs):JW W X (e :: es) fun env h=>match fe env h with | some (d,h1)=>(match fs env h1 with | some (ds,h2)=>some (d :: ds,h2) | none=>none) | none=>none:=by
 obtain⟨ts,hj,ht⟩:=hs
 refine⟨_ :: ts,.cons he hj,fun acc σ H Q ⟨env,S,ρ,h,xs,ys,h',re,R,hf,hy,hl,q⟩=>?_⟩
 try dsimp only at hf
 split at hf
 rotate_left
 ·cases hf
 rename_i d h1 ea
 split at hf
 rotate_left
 ·cases hf
 rename_i ds h2 eb
 cases hf
 cases d with
 | str y=>
  simp only[jt]at hy
  split at hy
  rotate_left
  ·cases hy
  rename_i zs hz
  cases hy
  simp only[List.map_cons,List.sum_cons]at hl
  have mm:most=PySem.sizeLine:=by rw[PySem.sizeLine_eq];rfl
  refine⟨env,S,ρ,h,_,h1,re,R,ea,fun S1 ρ1 H1 v1 g1 R1 r1=>?_⟩
  cases r1
  refine⟨y,rfl,by rw[mj,← mm];omega,ht (acc++y) σ H1 Q ⟨env,S1,ρ1,h1,ds,zs,_,re.go g1 R,R1,eb,hz,by rw[mj];omega,fun S' ρ' H' g2 R2=>?_⟩⟩
  exact q _ _ _ (g1.trans g2) R2
 | _=>cases hy
theorem pG {f:Str} {P:Prg} (xw:XW W X) (ho:PE X o (tE W fo)) (hcl:∀ c k,P.cls c=some k→L2.Cls W.K (W.cA c)∧∀ g∈k.flds,L2.NoAttr W.K (W.cA c) g):
  PG X (.Attribute o f pos) (tT W [] fun d env h=>match fo env h with
  | some (.ref n,h1)=>(match h1.get n with
   | some (.ins c fs)=>(match P.cls c with
    | some k=>bif k.flds.contains f&&Nat.ble fs.length 900 then some (env,h1.set n (.ins c (putF f d fs))) else none
    | none=>none)
   | _=>none)
  | _=>none):=by
 refine⟨fun pins s σ H v u Q I r hw=>?_⟩
 obtain⟨env,S,ρ,h,d,env',h',re,R,rv,hg,wq⟩:=hw
 try dsimp only at hg
 split at hg
 rotate_left
 ·cases hg
 rename_i n h1 eo
 split at hg
 rotate_left
 ·cases hg
 rename_i c fs hn
 split at hg
 rotate_left
 ·cases hg
 rename_i k hk
 obtain⟨hc,hg⟩:=aa hg
 cases hg
 rw[Bool.and_eq_true]at hc
 obtain⟨hC,hN⟩:=hcl c k hk
 rw[assign_Attribute]
 refine wpAny_bind (wpAny_holding (thn (ho.run pins s σ H (fun v1 H1=>∃ S1 ρ1,Go S ρ h H S1 ρ1 h1 H1∧RH W H1 S1 ρ1 h1∧RV W H1 S1 ρ1 (.ref n) v1) I ⟨env,S,ρ,h,_,h1,re,R,eo,fun S1 ρ1 H1 v1 g1 R1 r1=>⟨S1,ρ1,g1,R1,r1⟩⟩) fun ov s1 ⟨v1,H1,I1,ro1,S1,ρ1,g1,R1,r1⟩=>?_))
 cases r1 with
 | @ref _ a q=>
  obtain⟨a',hob,q',ea,ns,ro⟩:=R1.lv _ _ hn
  rw[q]at q';cases q'
  cases ro1
  cases ro with
  | @ins _ dx _ gs rf=>
   refine wpAny_bind (wpAny_standAt (wpAny_bind (wpAny_holding (L2.setattr_ok I1 ea (by rw[xw.K];exact hC) (by rw[xw.K];exact hN f (by simpa using hc.1)) ?_ r fun s2 I2=>?_))))
   ·rw[← jH rf]
    exact Nat.lt_of_le_of_lt (Nat.le_of_ble_eq_true hc.2) (by decide)
   ·obtain⟨g3,R3⟩:=dc (o':=.ins c (putF f d fs)) (ho':=.ins (W.cA c) dx (L2.putF f v gs)) R1 hn q fun H' st=>.ins ((iP (rv.go g1 R) rf).mono' (fun _ z=>z) st fun _ _ e=>e)
    have gg:=g1.trans g3
    exact wpAny_release ⟨σ,_,I2,wq _ _ _ _ gg R3 (re.go gg R) fun _ _=>rfl⟩
structure InsK (K:PySem.W.Frag) (C:Addr):Prop where
 ha:PySem.W.findIn K (.ref C) "__class__" = some (some (.builtin "object.__class__"))
 hn:PySem.W.specialIn K (.builtin "object.__class__") "__get__" = some (some (.builtin "getset_descriptor.__get__"))
 htk:PySem.W.takesIn K (.builtin "object.__class__")=some true
 hm:PySem.W.mroIn K C (.type "object")=some true
 no:∀ t:Ty,PySem.W.kitOne K (.ref C) (.type (cN t))=some false
end
open L2 (upd upd_same upd_ne ne_of ne_of_none Cx VK XK WX Inv RelV HOk ObjOk PE PA PS PSs PT PI PG TE TA TS Room FnOk Gl Binds Cls Meth PassesAt WE)
theorem zx {B h:Heap} {l:List PySem.Env} {a L:Addr} {Z Z':Obj→Prop} (z:∀ o,Z o→Z' o) (x:L2.Sky B l a Z L h):L2.Sky B l a Z' L h:=by
 rcases x with ⟨hB,hn,hl,oe,vs,he,hz,hd,h1⟩ | ⟨k1,k2,k3,oe,vs,T,oT,ts,he,hz,r⟩ | ⟨k1,k2,k3,oe,vs,T,oT,ts,he,hz,r⟩
 ·exact .inl ⟨hB,hn,hl,oe,vs,he,z _ hz,hd,h1⟩
 ·exact .inr (.inl ⟨k1,k2,k3,oe,vs,T,oT,ts,he,z _ hz,r⟩)
 ·exact .inr (.inr ⟨k1,k2,k3,oe,vs,T,oT,ts,he,z _ hz,r⟩)
theorem vR {X:Cx} {W:WX} (t:L2.Takes X W):L2N.Takes X W:=fun u s' ⟨a,B,sI,pins,σ,H,cls,d,e,I,nb,up,sky,na,os,ag,w⟩=>
 t u s' ⟨a,B,sI,pins,σ,H,cls,d,e,I,nb,up,zx (fun _ z=>z.zc) sky,na,os,ag,w⟩
def kO (W:Wd) (H:HH) (S:Addr→Prop) (ρ:aq) (fs:List (Str×D)) (d:Option Addr):Prop:=(fs=[]∧d=none)∨∃ dd gs,d=some dd∧H dd=some (.xd gs)∧RFs W H S ρ fs gs
def c8 (W:Wd) (S:Addr→Prop) (ρ:aq) (h:Mm) (H:HH) (c:Nat) (fs:List (Str×D)) (h':Mm) (Q:XK):Prop:=
 ∀ S' ρ' H' d,Go S ρ h H S' ρ' h' H'→RH W H' S' ρ' h'→kO W H' S' ρ' fs d→Q (.ref (W.cA c)) d H'
theorem c8.pre {W:Wd} {S S1:Addr→Prop} {ρ ρ1:aq} {h h1 h':Mm} {H H1:HH} {c:Nat} {fs:List (Str×D)} {Q:XK} (w:c8 W S ρ h H c fs h' Q) (g:Go S ρ h H S1 ρ1 h1 H1):c8 W S1 ρ1 h1 H1 c fs h' Q:=
 fun S' ρ' H' d g' R e=>w S' ρ' H' d (g.trans g') R e
abbrev rE (W:Wd) (fr:Env→Mm→Option aP) (E:L2.St→XK):TE:=fun σ H _=>∃ env S ρ h c fs h',RE W H S ρ env σ∧RH W H S ρ h∧fr env h=some (c,fs,h')∧c8 W S ρ h H c fs h' (E σ)
abbrev rA (W:Wd) (fr:Env→Mm→Option aP) (E:L2.St→XK):TA:=fun σ H _=>∃ env S ρ h c fs h',RE W H S ρ env σ∧RH W H S ρ h∧fr env h=some (c,fs,h')∧c8 W S ρ h H c fs h' (E σ)
def bE (W:Wd) (fr:Env→Mm→Option aP) (E:XK):TS:=fun _ σ H=>∃ env S ρ h c fs h',RE W H S ρ env σ∧RH W H S ρ h∧fr env h=some (c,fs,h')∧c8 W S ρ h H c fs h' E
def cB (W:Wd) (n:Nat) (rc:List D→Mm→Option aP):L2.Sp:=fun vs H _ E=>vs.length=n∧∃ S ρ h ds c fs h',RVs W H S ρ ds vs∧RH W H S ρ h∧rc ds h=some (c,fs,h')∧c8 W S ρ h H c fs h' E
theorem kO.pure {W:Wd} {H:HH} {S S1:Addr→Prop} {ρ ρ1:aq} {fs:List (Str×D)} {d:Option Addr} (x:kO W H S ρ fs d) (p:dR fs=true) (s1:∀ a,S a→S1 a):kO W H S1 ρ1 fs d:=by
 rcases x with x | ⟨dd,gs,e,e2,r⟩
 ·exact .inl x
 ·exact .inr ⟨dd,gs,e,e2,r.pure s1 p⟩
theorem gw {W:Wd} {S:Addr→Prop} {ρ:aq} {h h':Mm} {H:HH} {m:Md} {g:List D→Mm→Option aP} {n c:Nat} {ds:List D} {vs:List L2.V} {fs:List (Str×D)} {Q0:VK} {Q:XK} (R:RH W H S ρ h) (r:RVs W H S ρ ds vs) (hn:vs.length=n) (hf:cE m g ds h=some (c,fs,h'))
  (wq:c8 W S ρ h H c fs h' Q):cB W n g vs H Q0 Q:=by
 have iso:(bif bI ds then (match g ds .nil with | some (c,fs,_)=>bif dR fs then some (c,fs,h) else none | none=>none) else none)=some (c,fs,h')→cB W n g vs H Q0 Q:=fun hf=>by
  refine⟨hn,?_⟩
  obtain⟨hp,hf⟩:=aa hf
  split at hf
  rotate_left
  ·cases hf
  rename_i c1 fs1 h1 e1
  obtain⟨hp2,hf⟩:=aa hf
  cases hf
  refine⟨S,cQ,.nil,ds,c,fs,h1,r.pure (fun _ x=>x) hp,jK R,e1,fun S1 ρ1 H1 d g1 R1 ed=>?_⟩
  obtain⟨g2,R2⟩:=apart (T:=S1) R g1 R1 (fun _ x=>x) fun _ x=>.inl x
  exact wq _ _ _ _ g2 R2 (ed.pure hp2 fun _ x=>x)
 cases m with
 | sh=>exact⟨hn,S,ρ,h,ds,c,fs,h',r,R,hf,wq⟩
 | iso=>exact iso hf
 | liv=>exact iso hf
theorem kU {m:Md} {g:List D→Mm→Option aP} {ds:List D} {h:Mm} {q:aP} (hf:cE m g ds h=some q):∃ h0 q0,g ds h0=some q0:=by
 have iso:(bif bI ds then (match g ds .nil with | some (c,fs,_)=>bif dR fs then some (c,fs,h) else none | none=>none) else none)=some q→∃ h0 q0,g ds h0=some q0:=fun hf=>by
  obtain⟨_,hf⟩:=aa hf
  split at hf
  ·rename_i e1;exact⟨_,_,e1⟩
  ·cases hf
 cases m with
 | sh=>exact⟨_,_,hf⟩
 | iso=>exact iso hf
 | liv=>exact iso hf
section
variable {W:Wd} {X:Cx} {e o:Expr} {es:List Expr} {fe fo:Fe} {fa fs:Fa} {fr:Env→Mm→Option aP} {E:L2.St→XK} {Ex:XK} {t:TA} {b:List Stmt} {st:Stmt} {rest:List Stmt} {fb:bR} {u:TS}
theorem cY:PE X e (rE W (fun _ _=>none) E):=⟨fun pins s σ H D I hw=>by
 obtain⟨_,_,_,_,_,_,_,_,_,z,_⟩:=hw
 cases z⟩
theorem ko:PA X es (rA W (fun _ _=>none) E):=⟨fun pos pins s σ H D I hw=>by
 obtain⟨_,_,_,_,_,_,_,_,_,z,_⟩:=hw
 cases z⟩
theorem eF:PS X st (bE W (fun _ _=>none) Ex):=⟨fun pins s σ H D I hw=>by
 obtain⟨_,_,_,_,_,_,_,_,_,z,_⟩:=hw
 cases z⟩
theorem ja:PSs X b (bE W (fun _ _=>none) Ex):=⟨fun pins s σ H D I hw=>by
 obtain⟨_,_,_,_,_,_,_,_,_,z,_⟩:=hw
 cases z⟩
theorem PE.or {t1 t2:TE} (h1:PE X e t1) (h2:PE X e t2):PE X e (fun σ H Q=>t1 σ H Q∨t2 σ H Q):=⟨fun pins s σ H Q I h=>h.elim (h1.run pins s σ H Q I) (h2.run pins s σ H Q I)⟩
theorem PSs.or {t1 t2:TS} (h1:PSs X b t1) (h2:PSs X b t2):PSs X b (fun D σ H=>t1 D σ H∨t2 D σ H):=⟨fun pins s σ H D I h=>h.elim (h1.run pins s σ H D I) (h2.run pins s σ H D I)⟩
theorem PE.orR {fa fb:Env→Mm→Option aP} {n:Env→Mm→Bool} (h1:PE X e (rE W fa E)) (h2:PE X e (rE W fb E)):PE X e (rE W (fun env h=>orR (n env h) (fa env h) (fb env h)) E):=⟨fun pins s σ H Q I ⟨env,S,ρ,h,c,fs,h',re,R,hf,wq⟩=>by
 dsimp only at hf
 unfold Ev.orR at hf
 cases ea:n env h with
 | false=>rw[ea]at hf;exact h1.run pins s σ H Q I ⟨env,S,ρ,h,c,fs,h',re,R,hf,wq⟩
 | true=>rw[ea]at hf;exact h2.run pins s σ H Q I ⟨env,S,ρ,h,c,fs,h',re,R,hf,wq⟩⟩
theorem PA.orR {fa fb:Env→Mm→Option aP} {n:Env→Mm→Bool} (h1:PA X es (rA W fa E)) (h2:PA X es (rA W fb E)):PA X es (rA W (fun env h=>orR (n env h) (fa env h) (fb env h)) E):=⟨fun pos pins s σ H Q I ⟨env,S,ρ,h,c,fs,h',re,R,hf,wq⟩=>by
 dsimp only at hf
 unfold Ev.orR at hf
 cases ea:n env h with
 | false=>rw[ea]at hf;exact h1.run pos pins s σ H Q I ⟨env,S,ρ,h,c,fs,h',re,R,hf,wq⟩
 | true=>rw[ea]at hf;exact h2.run pos pins s σ H Q I ⟨env,S,ρ,h,c,fs,h',re,R,hf,wq⟩⟩
theorem PSs.orR {fa fb:Env→Mm→Option aP} {n:Env→Mm→Bool} (h1:PSs X b (bE W fa Ex)) (h2:PSs X b (bE W fb Ex)):PSs X b (bE W (fun env h=>orR (n env h) (fa env h) (fb env h)) Ex):=⟨fun pins s σ H D I ⟨env,S,ρ,h,c,fs,h',re,R,hf,wq⟩=>by
 dsimp only at hf
 unfold Ev.orR at hf
 cases ea:n env h with
 | false=>rw[ea]at hf;exact h1.run pins s σ H D I ⟨env,S,ρ,h,c,fs,h',re,R,hf,wq⟩
 | true=>rw[ea]at hf;exact h2.run pins s σ H D I ⟨env,S,ρ,h,c,fs,h',re,R,hf,wq⟩⟩
theorem nO (he:PE X e (rE W fr E)) (hs:PA X es t) (hst:starEach (e :: es) X.env=(false,eval e X.env) :: starEach es X.env):PA X (e :: es) (rA W fr E):=⟨fun pos pins s σ H Q I h=>(L2.pa_cons he hs hst).run pos pins s σ H Q I h⟩
theorem nQ (he:PE X e (tE W fe)) (hs:PA X es (rA W fr E)) (hst:starEach (e :: es) X.env=(false,eval e X.env) :: starEach es X.env):PA X (e :: es) (rA W (fun env h=>match fe env h with | some (_,h1)=>fr env h1 | none=>none) E):=by
 refine⟨fun pos pins s σ H Q I hw=>(L2.pa_cons he hs hst).run pos pins s σ H Q I ?_⟩
 obtain⟨env,S,ρ,h,c,q,h',re,R,hf,wq⟩:=hw
 dsimp only at hf
 split at hf
 rotate_left
 ·cases hf
 rename_i d h1 ea
 exact⟨env,S,ρ,h,d,h1,re,R,ea,fun S1 ρ1 H1 v1 g1 R1 r1=>⟨env,S1,ρ1,h1,c,q,h',re.go g1 R,R1,hf,wq.pre g1⟩⟩
theorem yY {k:Nat} {pos:Pos} (hs:PA X es (rA W fr E)):PE X (.Tuple es k pos) (rE W fr E):=⟨fun pins s σ H Q I h=>(L2.pe_tup hs).run pins s σ H Q I h⟩
theorem lstR {pos:Pos} (hs:PA X es (rA W fr E)):PE X (.List es pos) (rE W fr E):=⟨fun pins s σ H Q I h=>(L2.pe_lst hs).run pins s σ H Q I h⟩
section
variable {f:Addr} {fd:FuncData} {ps:List Str} {k c:Nat} {m:Str} {pos apos:Pos} {rc:List D→Mm→Option aP} {x:Str} {p:Pos} {CX:L2.CXT} {sp:L2.Sp} {md:Md}
theorem sD (hx:∀ σ,PassesAt CX X σ (E σ)) (F:FnOk X.prog X.w X.K X.mg X.base CX k f fd ps (cB W ps.length rc)) (ar:∀ vs h q,rc vs h=some q→vs.length=ps.length)
  (hr:Room k X.A) (hg:Gl X x) (hm:X.mg x=some (.ref f)) (hk:PySem.W.keepIn X.K (.ref f)=true) (hb:Binds X.K fd ps []) (hdb:(x == ("__debug__":Str))=false) (pl:aJ es=true) (h0:es=[]→fa=F0) (ha:PA X es (bK W fa)):
  PE X (.Call (.Name x p) es [] pos) (rE W (fun env h=>match fa env h with | some (vs,h1)=>cE md rc vs h1 | none=>none) E):=by
 have key:∀ (t:TA),(∀ σ H Q,bK W fa σ H Q→t σ H Q)→∀ σ H Q,rE W (fun env h=>match fa env h with | some (vs,h1)=>cE md rc vs h1 | none=>none) E σ H Q→L2.tCallS (cB W ps.length rc) E t σ H Q:=by
  rintro t ht σ H Q ⟨env,S,ρ,h,c,fs,h',re,R,hf,wq⟩
  dsimp only at hf
  split at hf
  rotate_left
  ·cases hf
  rename_i vs h1 ea
  refine ht _ _ _ ⟨env,S,ρ,h,vs,h1,re,R,ea,fun S1 ρ1 H1 us g1 R1 r1=>?_⟩
  obtain⟨h0,q0,e0⟩:=kU hf
  exact gw R1 r1 (by rw[← r1.len];exact ar _ _ _ e0) hf (wq.pre g1)
 cases es with
 | nil=>
  refine L2.PE.sub (t:=L2.tCallS (cB W ps.length rc) E L2.tNil) ⟨fun pins s σ H Q I h=>?_⟩ (key _ fun σ H Q ⟨env,S,ρ,h,ds,h',re,R,e,w⟩=>ee (h0 rfl) re R e w)
  refine wpAny_Call_Name_kw (L2.ld_glob I hg hm ?_ hdb)
  exact PySem.W.callWith_K0 I.kIn hk (L2.run_fnS (us:=[]) F hr hb (hx σ) I .nil h)
 | cons e r=>
  simp only[aJ,Bool.and_eq_true]at pl
  exact L2.PE.sub (L2.pe_callS (E:=E) F hr hg hm hk hb hx ha hdb (am pl.1) (aV pl.2)) (key _ fun _ _ _ z=>z)
theorem uX (F:FnOk X.prog X.w X.K X.mg X.base L2.CX0 k f fd ps sp) (hr:Room k X.A) (hg:Gl X x) (hm:X.mg x=some (.ref f)) (hk:PySem.W.keepIn X.K (.ref f)=true) (hb:Binds X.K fd ps [])
  (hdb:(x == ("__debug__":Str))=false) (pl:aJ (e :: es)=true) (ha:PA X (e :: es) (rA W fr E)):PE X (.Call (.Name x p) (e :: es) [] pos) (rE W fr E):=by
 simp only[aJ,Bool.and_eq_true]at pl
 exact⟨fun pins s σ H Q I h=>(L2.pe_call (E:=L2.E0) F hr hg hm hk hb .nil L2.pass0 ha hdb (am pl.1) (aV pl.2)).run pins s σ H Q I h⟩
theorem oG {v:Value} (hg:Gl X x) (hm:X.mg x=some v) (hk:PySem.W.keepIn X.K v=true)
  (hdb:(x == ("__debug__":Str))=false) (pl:aJ (e :: es)=true) (ha:PA X (e :: es) (rA W fr E)):PE X (.Call (.Name x p) (e :: es) [] pos) (rE W fr E):=by
 simp only[aJ,Bool.and_eq_true]at pl
 refine⟨fun pins s σ H Q I h=>?_⟩
 refine wpAny_Call_Name_kw (L2.ld_glob I hg hm ?_ hdb)
 exact PySem.W.callWith_K (h₀:=X.base) I.ok.mod.kin hk (L2.thn (ha.run pos pins s σ H (fun _ _=>False) I h) fun us s1 ⟨vs,H1,I1,r,q⟩=>q.elim) (am pl.1) (aV pl.2)
def kr (C:Addr) (m:Str) (sp:L2.Sp) (E:L2.St→XK) (ta:TE) (t:TA):TE:=fun σ H Q=>ta σ H fun x H1=>∃ (a:Addr) (dx:Addr) (fs:List (Str×L2.V)),x = .ref a∧H1 a=some (.ins C dx fs)∧fs.lookup m=none∧t σ H1 fun vs H2=>sp (.ref a :: vs) H2 Q (E σ)
theorem oP {C:Addr} {ta:TE} {t:TA} {pl0:Sem Bool} (he:PE X o ta) (c:Cls X.K C) (hm:Meth X.K C m f) (F:FnOk X.prog X.w X.K X.mg X.base CX k f fd ps sp) (hr:Room k X.A) (hb:Binds X.K fd ps []) (hx:∀ σ,PassesAt CX X σ (E σ)) (ha:PA X (e :: es) t)
  (hst:starEach (e :: es) X.env=(false,eval e X.env) :: starEach es X.env) (hpl:(backTo pos (starEach es X.env)).any (·.1)=false)
  (ht:eval (.Call (.Attribute o m apos) (e :: es) [] pos) X.env=(do
   let ov ← eval o X.env
   standAt apos.atName
   let (f,first) ← holding [ov] (getMethod ov m pl0)
   callWith pos f first (backTo pos (starEach (e :: es) X.env)) (backToKw pos (keywordEach [] X.env)))):
  PE X (.Call (.Attribute o m apos) (e :: es) [] pos) (kr C m sp E ta t):=by
 refine⟨fun pins s σ H Q I h=>?_⟩
 refine PySem.W.methodCall_KW (pl:=pl0) (L2.thn (he.run pins s σ H _ I h) fun u s1 ⟨x,H1,I1,rx,a,dx,fs,ex,ea,l,q⟩=>?_) ht
 subst ex
 obtain rfl:u=Value.ref a:=rx
 refine L2.getmeth_ok I1 ea c hm l ?_
 refine PySem.W.callWith_K (first:=[.ref a]) (h₀:=X.base) I.ok.mod.kin hm.kp (L2.thn (ha.run pos pins s1 σ H1 _ I1 q) fun us s2 ⟨vs,H2,I2,r,q2⟩=>⟨I2.kIn,?_⟩) hst hpl
 exact L2.run_fnS (us:=.ref a :: us) (vs:=.ref a :: vs) F hr hb (hx σ) I2 (.cons rfl r) q2
theorem nP {C:Addr} {ta:TE} {pl0:Sem Bool} (he:PE X o ta) (c:Cls X.K C) (hm:Meth X.K C m f) (F:FnOk X.prog X.w X.K X.mg X.base CX k f fd ps sp) (hr:Room k X.A) (hb:Binds X.K fd ps []) (hx:∀ σ,PassesAt CX X σ (E σ))
  (ht:eval (.Call (.Attribute o m apos) [] [] pos) X.env=(do
   let ov ← eval o X.env
   standAt apos.atName
   let (f,first) ← holding [ov] (getMethod ov m pl0)
   callWith pos f first (backTo pos (starEach [] X.env)) (backToKw pos (keywordEach [] X.env)))):
  PE X (.Call (.Attribute o m apos) [] [] pos) (kr C m sp E ta L2.tNil):=by
 refine⟨fun pins s σ H Q I h=>?_⟩
 refine PySem.W.methodCall_KW (pl:=pl0) (L2.thn (he.run pins s σ H _ I h) fun u s1 ⟨x,H1,I1,rx,a,dx,fs,ex,ea,l,q⟩=>?_) ht
 subst ex
 obtain rfl:u=Value.ref a:=rx
 refine L2.getmeth_ok I1 ea c hm l ?_
 exact PySem.W.callWith_K0 (first:=[.ref a]) I1.kIn hm.kp (L2.run_fnS (us:=[.ref a]) (vs:=[.ref a]) F hr hb (hx σ) I1 (.cons rfl .nil) q)
theorem wx {pl0:Sem Bool} (hx:∀ σ,PassesAt (L2N.CX X.prog X.w) X σ (E σ)) (ho:PE X o (tE W fo)) (xw:XW W X) (hc:Cls W.K (W.cA c)) (hm:Meth W.K (W.cA c) m f)
  (F:FnOk X.prog X.w X.K X.mg X.base (L2N.CX X.prog X.w) k f fd ps (cB W ps.length rc)) (ar:∀ vs h q,rc vs h=some q→vs.length=ps.length) (hr:Room k X.A) (hb:Binds X.K fd ps []) (pl:aJ es=true) (h0:es=[]→fs=F0) (ha:PA X es (bK W fs))
  (ht:eval (.Call (.Attribute o m apos) es [] pos) X.env=(do
   let ov ← eval o X.env
   standAt apos.atName
   let (f,first) ← holding [ov] (getMethod ov m pl0)
   callWith pos f first (backTo pos (starEach es X.env)) (backToKw pos (keywordEach [] X.env)))):
  PE X (.Call (.Attribute o m apos) es [] pos) (rE W (fun env h=>match fo env h with
  | some (x,h1)=>(match aO h1 x with
   | some (c',gs)=>bif Nat.beq c c'&&(aY gs m).isNone then (match fs env h1 with
    | some (vs,h2)=>cE md rc (x :: vs) h2
    | none=>none) else none
   | none=>none)
  | none=>none) E):=by
 have hc':Cls X.K (W.cA c):=by rw[xw.K];exact hc
 have hm':Meth X.K (W.cA c) m f:=by rw[xw.K];exact hm
 have key:∀ (t:TA),(∀ σ H Q,bK W fs σ H Q→t σ H Q)→∀ σ H Q,rE W (fun env h=>match fo env h with
  | some (x,h1)=>(match aO h1 x with
   | some (c',gs)=>bif Nat.beq c c'&&(aY gs m).isNone then (match fs env h1 with
    | some (vs,h2)=>cE md rc (x :: vs) h2
    | none=>none) else none
   | none=>none)
  | none=>none) E σ H Q→kr (W.cA c) m (cB W ps.length rc) E (tE W fo) t σ H Q:=by
  rintro t ht σ H Q ⟨env,S,ρ,h,cc,q,h',re,R,hf,wq⟩
  dsimp only at hf
  split at hf
  rotate_left
  ·cases hf
  rename_i x h1 ea
  split at hf
  rotate_left
  ·cases hf
  rename_i c' gs ei
  obtain⟨hcc,hf2⟩:=aa hf
  rw[Bool.and_eq_true]at hcc
  obtain⟨hc1,hc2⟩:=hcc
  have hc1:=Nat.eq_of_beq_eq_true hc1
  clear hf
  subst hc1
  split at hf2
  rotate_left
  ·cases hf2
  rename_i vs h2 eb
  refine⟨env,S,ρ,h,x,h1,re,R,ea,fun S1 ρ1 H1 v1 g1 R1 r1=>?_⟩
  obtain⟨a,dx,gs',rfl,e1,rf⟩:=fB ei R1 r1
  have hl:gs'.lookup m=none:=by
   rcases dD (f:=m) rf with ⟨_,q⟩ | ⟨d0,v0,q,_⟩
   ·exact q
   ·rw[q]at hc2;cases hc2
  refine⟨a,dx,gs',rfl,e1,hl,ht _ _ _ ⟨env,S1,ρ1,h1,vs,h2,re.go g1 R,R1,eb,fun S2 ρ2 H2 us g2 R2 r2=>?_⟩⟩
  have hr3:RVs W H2 S2 ρ2 (x :: vs) (L2.V.ref a :: us):=.cons (r1.go g2 R1) r2
  obtain⟨h0,q0,e0⟩:=kU hf2
  exact gw R2 hr3 (by rw[← hr3.len];exact ar _ _ _ e0) hf2 (wq.pre (g1.trans g2))
 cases es with
 | nil=>exact L2.PE.sub (nP (E:=E) ho hc' hm' F hr hb hx ht) (key _ fun σ H Q ⟨env,S,ρ,h,ds,h',re,R,e,w⟩=>ee (h0 rfl) re R e w)
 | cons e r=>
  simp only[aJ,Bool.and_eq_true]at pl
  exact L2.PE.sub (oP (E:=E) ho hc' hm' F hr hb hx ha (am pl.1) (aV pl.2) ht) (key _ fun _ _ _ z=>z)
theorem u7 {pl0:Sem Bool} (ho:PE X o (tE W fo)) (xw:XW W X) (hc:Cls W.K (W.cA c)) (hm:Meth W.K (W.cA c) m f)
  (F:FnOk X.prog X.w X.K X.mg X.base L2.CX0 k f fd ps sp) (hr:Room k X.A) (hb:Binds X.K fd ps []) (pl:aJ (e :: es)=true) (ha:PA X (e :: es) (rA W fr E))
  (ht:eval (.Call (.Attribute o m apos) (e :: es) [] pos) X.env=(do
   let ov ← eval o X.env
   standAt apos.atName
   let (f,first) ← holding [ov] (getMethod ov m pl0)
   callWith pos f first (backTo pos (starEach (e :: es) X.env)) (backToKw pos (keywordEach [] X.env)))):
  PE X (.Call (.Attribute o m apos) (e :: es) [] pos) (rE W (fun env h=>match fo env h with
  | some (x,h1)=>(match aO h1 x with
   | some (c',gs)=>bif Nat.beq c c'&&(aY gs m).isNone then fr env h1 else none
   | none=>none)
  | none=>none) E):=by
 have hc':Cls X.K (W.cA c):=by rw[xw.K];exact hc
 have hm':Meth X.K (W.cA c) m f:=by rw[xw.K];exact hm
 simp only[aJ,Bool.and_eq_true]at pl
 refine L2.PE.sub (L2.pe_meth (E:=L2.E0) ho hc' hm' F hr hb .nil L2.pass0 ha (am pl.1) (aV pl.2) ht) ?_
 rintro σ H Q ⟨env,S,ρ,h,cc,q,h',re,R,hf,wq⟩
 dsimp only at hf
 split at hf
 rotate_left
 ·cases hf
 rename_i x h1 ea
 split at hf
 rotate_left
 ·cases hf
 rename_i c' gs ei
 obtain⟨hcc,hf2⟩:=aa hf
 rw[Bool.and_eq_true]at hcc
 obtain⟨hc1,hc2⟩:=hcc
 have hc1:=Nat.eq_of_beq_eq_true hc1
 clear hf
 subst hc1
 refine⟨env,S,ρ,h,x,h1,re,R,ea,fun S1 ρ1 H1 v1 g1 R1 r1=>?_⟩
 obtain⟨a,dx,gs',rfl,e1,rf⟩:=fB ei R1 r1
 have hl:gs'.lookup m=none:=by
  rcases dD (f:=m) rf with ⟨_,q⟩ | ⟨d0,v0,q,_⟩
  ·exact q
  ·rw[q]at hc2;cases hc2
 exact⟨a,dx,gs',rfl,e1,hl,env,S1,ρ1,h1,cc,q,h',re.go g1 R,R1,hf2,wq.pre g1⟩
theorem nu {pins:List (Addr×Obj)} {σ:L2.St} {H:HH} {s:Shared} {Q:VK} {us:List Value} {vs:List L2.V} {C:Addr} {Eσ:XK} (M:L2.Mk X.K C f) (F:FnOk X.prog X.w X.K X.mg X.base CX k f fd ps sp) (hr:Room (k + 1) X.A) (hb:Binds X.K fd ps []) (hx:PassesAt CX X σ Eσ)
  (I:Inv X pins σ H s) (r:L2.Vals vs us) (h:∀ x dx,H x=none→H dx=none→dx≠x→sp (.ref x :: vs) (upd (upd H dx (.own x)) x (.ins C dx [])) (fun v H2=>v = .non∧Q (.ref x) H2) Eσ):
  wpAny (model X.prog X.w) X.A (PySem.call (.ref C) us) (L2.EP X pins σ Q) X.xe s:=by
 have hq:=h (s.heap.objs.size + 1) s.heap.objs.size (I.hok.fresh (Nat.le_succ _)) (I.hok.fresh (Nat.le_refl _)) (Nat.ne_of_lt (Nat.lt_succ_self _))
 have I2:=Inv.made (C:=C) I
 have r2:L2.Vals (L2.V.ref (s.heap.objs.size + 1) :: vs) (Value.ref (s.heap.objs.size + 1) :: us):=.cons rfl r
 have hl:(Value.ref (s.heap.objs.size + 1) :: us++[]).length=ps.length:=by
  have e:=r2.length
  rw[F.len _ _ _ _ hq]at e
  rw[List.append_nil]
  exact e.symm
 refine wpAny_call (L2.make_map (f:=f) I.kIn M.makes M.init (beq_iff_eq.mp M.fn) (codeAny_mono (F.run _ X.stack _ _ ⟨Value.ref (s.heap.objs.size + 1) :: us,[]⟩ (Value.ref (s.heap.objs.size + 1) :: us) _ _ Eσ (hr.make C us [])
  (I2.env0.make C us []) (by have:=hb _ (Value.ref (s.heap.objs.size + 1) :: us) I2.kIn hl;rwa [List.append_nil]at this) r2 hq) fun r s' hq'=>?_))
 cases r with
 | error e=>exact hx pins _ _ e s' I2 hq'
 | ok fl=>
  cases fl with
  | ret u=>
   obtain⟨v,H',I3,rv,ev,q3⟩:=I2.after hq'
   subst ev
   exact⟨rv,⟨L2.V.ref (s.heap.objs.size + 1),H',I3,rfl,q3⟩⟩
  | next=>exact False.elim hq'
  | brk=>exact False.elim hq'
  | cont=>exact False.elim hq'
theorem wm {k1:Cl} {P:Prg} {c2:Fs} (hx:∀ σ,PassesAt (L2N.CX X.prog X.w) X σ (E σ)) (hP:P.cls c=some k1) (xw:XW W X) (M:L2.Mk W.K (W.cA c) f) (F:FnOk X.prog X.w X.K X.mg X.base (L2N.CX X.prog X.w) k f fd ps (cB W ps.length fun vs h=>bu (c2 (10000 + k1.init) vs h)))
  (ar:∀ vs h q,bu (c2 (10000 + k1.init) vs h)=some q→vs.length=ps.length) (hr:Room (k + 1) X.A) (hb:Binds X.K fd ps []) (hg:Gl X x) (hm:X.mg x=some (.ref (W.cA c))) (hdb:(x == ("__debug__":Str))=false) (pl:aJ es=true) (h0:es=[]→fa=F0) (ha:PA X es (bK W fa)):
  PE X (.Call (.Name x p) es [] pos) (rE W (fun env h=>match fa env h with
   | some (vs,h1)=>cE md (fun vs h=>match P.cls c with
    | some k=>bu (c2 (10000 + k.init) (.ref h.nx :: vs) (h.new (.ins c [])).2)
    | none=>none) vs h1
   | none=>none) E):=by
 have M':L2.Mk X.K (W.cA c) f:=by rw[xw.K];exact M
 have key:∀ {pins:List (Addr×Obj)} {σ:L2.St} {s:Shared} {H:HH} {Q:VK} {us:List Value} {vs:List L2.V} {S:Addr→Prop} {ρ:aq} {h h':Mm} {c':Nat} {fs:List (Str×D)} {ds:List D},Inv X pins σ H s→L2.Vals vs us→RVs W H S ρ ds vs→RH W H S ρ h →
   cE md (fun vs h=>match P.cls c with
    | some k=>bu (c2 (10000 + k.init) (.ref h.nx :: vs) (h.new (.ins c [])).2)
    | none=>none) ds h=some (c',fs,h')→c8 W S ρ h H c' fs h' (E σ)→wpAny (model X.prog X.w) X.A (PySem.call (.ref (W.cA c)) us) (L2.EP X pins σ Q) X.xe s:=by
  intro pins σ s H Q us vs S ρ h h' c' fs ds I r rv R hf wq
  refine nu M' F hr hb (hx σ) I r fun y dx hy hdx hne=>?_
  obtain⟨_,S2,ρ2,h2,ds2,c3,fs3,h3,r2,R2,hf2,wq2⟩:=gw (Q0:=Q) (n:=vs.length) R rv rfl hf wq
  rw[hP]at hf2
  dsimp only at hf2
  obtain⟨ns,nl⟩:=dY R2 hdx
  have R3:RH W (upd H dx (.own y)) S2 ρ2 h2:=R2.fo ns nl
  have g3:Go S2 ρ2 h2 H S2 ρ2 h2 (upd H dx (.own y)):=Go.upd .refl hdx
  have hy':upd H dx (.own y) y=none:=by rw[upd_ne (Ne.symm hne)];exact hy
  obtain⟨g4,R4⟩:=my (o:=.ins c []) (ho:=.ins (W.cA c) dx []) R3 hy' (.ins .nil)
  have r4:RVs W (upd (upd H dx (.own y)) y (.ins (W.cA c) dx [])) S2 (aG ρ2 h2.nx y) (.ref h2.nx :: ds2) (L2.V.ref y :: vs):=by
   refine .cons (.ref (by unfold aG;rw[if_pos rfl])) ?_
   exact (r2.fo ns).go g4 R3
  refine⟨?_,S2,aG ρ2 h2.nx y,(h2.new (.ins c [])).2,_,c3,fs3,h3,r4,R4,hf2,wq2.pre (g3.trans g4)⟩
  rw[← r4.len];exact ar _ _ _ hf2
 refine⟨fun pins s σ H Q I hw=>?_⟩
 obtain⟨env,S,ρ,h,c',fs,h',re,R,hf,wq⟩:=hw
 dsimp only at hf
 split at hf
 rotate_left
 ·cases hf
 rename_i vs h1 ea
 refine wpAny_Call_Name_kw (L2.ld_glob I hg hm ?_ hdb)
 cases es with
 | nil=>
  obtain rfl:=h0 rfl
  cases ea
  exact PySem.W.callWith_K0 I.kIn M'.kp (key I .nil .nil R hf wq)
 | cons e r=>
  simp only[aJ,Bool.and_eq_true]at pl
  refine PySem.W.callWith_K (h₀:=X.base) I.ok.mod.kin M'.kp (L2.thn (ha.run pos pins s σ H _ I ⟨env,S,ρ,h,vs,h1,re,R,ea,fun S1 ρ1 H1 us g1 R1 r1=>(⟨S1,ρ1,r1,R1,wq.pre g1⟩:(fun us H1=>∃ S1 ρ1,RVs W H1 S1 ρ1 vs us∧RH W H1 S1 ρ1 h1∧c8 W S1 ρ1 h1 H1 c' fs h' (E σ)) us H1)⟩) fun us s1 ⟨ws,H1,I1,r1,S1,ρ1,rv,R1,w1⟩=>⟨I1.kIn,?_⟩) (am pl.1) (aV pl.2)
  exact key I1 r1 rv R1 hf w1
theorem yu {bb:Bm} {cpos:Pos} (xw:XW W X) (hb:gO bb=true) (ho:PE X o (tE W fo)) (po:aE o=true) (pl:aJ (e :: es)=true) (few:(e :: es).length < 30) (hline:(apos.endLine == cpos.line)=true) (ha:PA X (e :: es) (rA W fr E)):
  PE X (.Call (.Attribute o (mo bb) apos) (e :: es) [] cpos) (rE W (fun env h=>match fo env h with
  | some (x,h1)=>bif gz bb x h1 then fr env h1 else none
  | none=>none) E):=by
 obtain⟨pa,slot,hty⟩:=kZ bb hb
 have pl':=pl
 simp only[aJ,Bool.and_eq_true]at pl'
 have hfew:((backTo cpos (starEach (e :: es) X.env)).all (fun x=>!x.1)&&(backToKw cpos (keywordEach [] X.env)).all (fun x=>x.1.isSome)
   && decide ((e :: es).length + ([]:List Keyword).length + (if ([]:List Keyword).isEmpty then 0 else 1) < 30))=true:=by
  rw[gW pl]
  simp only[Bool.true_and,Bool.and_eq_true,decide_eq_true_eq]
  exact⟨rfl,by simpa using few⟩
 refine⟨fun pins s σ H Q I hw=>?_⟩
 obtain⟨env,S,ρ,h,cc,q,h',re,R,hf,wq⟩:=hw
 try dsimp only at hf
 split at hf
 rotate_left
 ·cases hf
 rename_i x h1 ea
 obtain⟨hty2,hf2⟩:=aa hf
 refine wpAny_Call_method_late (gU po) hfew hline rfl (L2.thn (ho.run pins s σ H (fun v H1=>∃ S1 ρ1,Go S ρ h H S1 ρ1 h1 H1∧RH W H1 S1 ρ1 h1∧RV W H1 S1 ρ1 x v) I ⟨env,S,ρ,h,x,h1,re,R,ea,fun S1 ρ1 H1 v1 g1 R1 r1=>⟨S1,ρ1,g1,R1,r1⟩⟩) fun v s1 ⟨x',H1,I1,rx,S1,ρ1,g1,R1,r1⟩=>?_)
 obtain⟨t1,t2⟩:=rq xw hb I1 R1 r1 rx hty2
 refine⟨oJ bb,nR bb,pa,slot,hty,t1,t2,?_⟩
 have hA:=ha.run cpos pins s1 σ H1 (fun _ _=>False) I1 ⟨env,S1,ρ1,h1,cc,q,h',re.go g1 R,R1,hf2,wq.pre g1⟩
 rw[am pl'.1]at hA ⊢
 refine PySem.Calls.callWith_builtin (by show (false||(backTo cpos (starEach es X.env)).any (·.1))=false;rw[aV pl'.2]<;>rfl) (PySem.Calls.evalArgs_plain ?_)
 exact L2.thn hA fun us s2 ⟨vs',H2,I2,rv,z⟩=>z.elim
end
theorem yq {g:Str} {fpos:Pos} (ho:PE X o (rE W fr E)) (hb:attributeBase o g X.env (eval o X.env)=eval o X.env):PE X (.Attribute o g fpos) (rE W fr E):=⟨fun pins s σ H Q I h=>(L2.pe_fld ho hb).run pins s σ H Q I h⟩
theorem nK {m:Str} {pos apos:Pos} {pl0:Sem Bool} (ho:PE X o (rE W fr E))
  (ht:eval (.Call (.Attribute o m apos) es [] pos) X.env=(do
   let ov ← eval o X.env
   standAt apos.atName
   let (f,first) ← holding [ov] (getMethod ov m pl0)
   callWith pos f first (backTo pos (starEach es X.env)) (backToKw pos (keywordEach [] X.env)))):
  PE X (.Call (.Attribute o m apos) es [] pos) (rE W fr E):=by
 refine⟨fun pins s σ H Q I h=>?_⟩
 exact PySem.W.methodCall_KW (pl:=pl0) (L2.thn (ho.run pins s σ H (fun _ _=>False) I h) fun u s1 ⟨_,_,_,_,z⟩=>z.elim) ht
theorem wv {c a b:Expr} {pos:Pos} (hx:PE X c (rE W fr E)) (he:∀ whole,isTrue c X.env whole=(do let v ← whole;standAt c.pos;holding [v] (truthy v))):PE X (.IfExp c a b pos) (rE W fr E):=by
 refine⟨fun pins s σ H Q I h=>?_⟩
 exact wpAny_IfExp (L2.thn ((L2.pt_val hx he).run pins s σ H (fun _ _=>False) I h) fun d s1 ⟨_,_,z⟩=>z.elim)
theorem zh {c a b:Expr} {pos:Pos} {fc:Fc} {fy fz:Env→Mm→Option aP} (hc:PT X c (tC W fc)) (ha:PE X a (rE W fy E)) (hb:PE X b (rE W fz E)):
  PE X (.IfExp c a b pos) (rE W (fun env h=>match fc env h with | some (true,h1)=>fy env h1 | some (false,h1)=>fz env h1 | none=>none) E):=by
 refine (L2.pe_ifExp hc ha hb).sub ?_
 rintro σ H Q ⟨env,S,ρ,h,c',q,h',re,R,hf,wq⟩
 dsimp only at hf
 split at hf
 ·rename_i h1 ec
  refine⟨env,S,ρ,h,true,h1,re,R,ec,fun S1 ρ1 H1 g1 R1=>?_⟩
  exact⟨env,S1,ρ1,h1,c',q,h',re.go g1 R,R1,hf,wq.pre g1⟩
 ·rename_i h1 ec
  refine⟨env,S,ρ,h,false,h1,re,R,ec,fun S1 ρ1 H1 g1 R1=>?_⟩
  exact⟨env,S1,ρ1,h1,c',q,h',re.go g1 R,R1,hf,wq.pre g1⟩
 ·cases hf
theorem za {t:Ty} {p p2 pos:Pos} (hg:Gl X "isinstance") (hm:X.mg "isinstance" = none) (hg2:Gl X (Str.ofString (cN t))) (hm2:X.mg (Str.ofString (cN t))=none) (pl:aE e=true) (he:PE X e (rE W fr E)):
  PE X (.Call (.Name "isinstance" p) [e,.Name (Str.ofString (cN t)) p2] [] pos) (rE W fr E):=by
 have h2:PE X (.Name (Str.ofString (cN t)) p2) (L2.tC (.ty (cN t))):=L2.pe_bltn hg2 hm2 (lQ t) rfl (ju t).1 (ju t).2
 exact⟨fun pins s σ H Q I h=>(L2.pe_callB L2.call_isi hg hm PyProof.Rows.boot_isinstance (L2.pa_cons he (L2.pa_cons h2 L2.pa_nil (am rfl)) (am pl)) (by decide) (by decide) (am pl) (aV (by rfl))).run pins s σ H Q I h⟩
theorem uM {pos:Pos} (he:PE X e (rE W fr fun _=>Ex)):PS X (.Return (some e) pos) (bE W fr Ex):=⟨fun pins s σ H D I h=>(L2.ps_ret he).run pins s σ H D I h⟩
theorem vA {pos:Pos} (he:PE X e (rE W fr fun _=>Ex)) (hs:swapsWith e none pos.line X.env=pure false):PS X (.Expr e pos) (bE W fr Ex):=⟨fun pins s σ H D I h=>(L2.ps_expr he hs).run pins s σ H D I h⟩
theorem vo {x:Str} {i:Nat} {pos p':Pos} (hN:X.N.Nodup) (hi:X.N[i]? = some x) (hx:L2.Loc X.env.scope x) (he:PE X e (rE W fr fun _=>Ex)) (hs:swapsWith e (some (.Name x p')) pos.line X.env=pure false)
  (hf:X.fn x=true∨X.env.scope.names.lookup x=some .local):PS X (.Assign [.Name x p'] e pos) (bE W fr Ex):=⟨fun pins s σ H D I h=>(L2.ps_asg (g:=L2.gName i) he (L2.pg_name hN hi hx hf) hs).run pins s σ H D I h⟩
theorem qS (hs:PS X st (bE W fr Ex)) (hr:PSs X rest u):PSs X (st :: rest) (bE W fr Ex):=⟨fun pins s σ H D I h=>(L2.pss_cons hs hr).run pins s σ H D I h⟩
theorem qW (hs:PS X st (tS W fb)) (hr:PSs X rest (bE W fr Ex)):PSs X (st :: rest) (bE W (fun env h=>match fb env h with | some (.nx,env1,h1)=>fr env1 h1 | _=>none) Ex):=by
 refine⟨fun pins s σ H D I hw=>(L2.pss_cons hs hr).run pins s σ H D I ?_⟩
 obtain⟨env,S,ρ,h,c,fs,h',re,R,hf,wq⟩:=hw
 dsimp only at hf
 split at hf
 rotate_left
 ·cases hf
 rename_i env1 h1 ea
 refine⟨env,S,ρ,h,(.nx,env1,h1),re,R,ea,fun S1 ρ1 H1 g1 R1 σ1 re1=>?_⟩
 exact⟨env1,S1,ρ1,h1,c,fs,h',re1,R1,hf,wq.pre g1⟩
theorem uJ {c:Expr} {as bs:List Stmt} {pos:Pos} {fc:Fc} {fs gs:Env→Mm→Option aP} (hc:PT X c (tC W fc)) (ha:PSs X as (bE W fs Ex)) (hb:PSs X bs (bE W gs Ex)):
  PS X (.If c as bs pos) (bE W (fun env h=>match fc env h with | some (true,h1)=>fs env h1 | some (false,h1)=>gs env h1 | none=>none) Ex):=by
 refine (L2.ps_if hc ha hb).sub fun N σ H hw=>?_
 obtain⟨env,S,ρ,h,c',q,h',re,R,hf,wq⟩:=hw
 dsimp only at hf
 split at hf
 ·rename_i h1 ec
  refine⟨env,S,ρ,h,true,h1,re,R,ec,fun S1 ρ1 H1 g1 R1=>?_⟩
  show ite _ _ _
  rw[if_pos rfl]
  exact⟨env,S1,ρ1,h1,c',q,h',re.go g1 R,R1,hf,wq.pre g1⟩
 ·rename_i h1 ec
  refine⟨env,S,ρ,h,false,h1,re,R,ec,fun S1 ρ1 H1 g1 R1=>?_⟩
  show ite _ _ _
  rw[if_neg Bool.false_ne_true]
  exact⟨env,S1,ρ1,h1,c',q,h',re.go g1 R,R1,hf,wq.pre g1⟩
 ·cases hf
end
abbrev jy (g:Ft) (fr:Env→Mm→Option aP):D→Env→Mm→Option aP:=fun x env h=>match g x env h with
 | some (env2,h2)=>fr env2 h2
 | none=>none
section
variable {W:Wd} {X:Cx} {Ex:XK} {tg iter:Expr} {pos:Pos} {body:List Stmt} {fi:Fi} {fb:bR} {fr:Env→Mm→Option aP} {g:Ft} {ks:List Nat}
theorem jG (xw:XW W X) (hp:PassesOwn (model X.prog X.w) X.A X.env X.xe) (hi:PI X tg iter (tI W fi)) (hg:PG X tg (tT W ks g)) (hb:PSs X body (tS W fb)) (hx:PSs X body (bE W fr Ex)) (pl:aE iter=true):
  PS X (.For tg iter body [] pos) (bE W (fun env h=>match fi env h with
  | some (xs,w,h1)=>gr (fun h=>stay h w) (bD g fb) (jy g fr) xs env h1
  | none=>none) Ex):=by
 have both:PSs X body (fun D σ H=>tS W fb D σ H∨bE W fr Ex D σ H):=PSs.or hb hx
 refine (L2.ps_for hp xw.calm hi hg both (da pl)).sub fun N σ H hw=>?_
 obtain⟨env,S,ρ,h,c,q,h',re,R,hf,wq⟩:=hw
 dsimp only at hf
 split at hf
 rotate_left
 ·cases hf
 rename_i xs w h1 ea
 refine⟨env,S,ρ,h,xs,w,h1,re,R,ea,fun S1 ρ1 H1 J g1 R1 sn=>?_⟩
 let Wit:Nat→L2.St→HH→Prop:=fun i σ2 H2=>∃ env2 S2 ρ2 h2,Go S1 ρ1 h1 H1 S2 ρ2 h2 H2∧RH W H2 S2 ρ2 h2∧RE W H2 S2 ρ2 env2 σ2∧gr (fun h=>stay h w) (bD g fb) (jy g fr) (xs.drop i) env2 h2=some (c,q,h')
 refine⟨fun i m σ2 H2=>m=xs.length - i∧i≤xs.length∧Wit i σ2 H2,⟨xs.length,rfl,Nat.zero_le _,env,S1,ρ1,h1,.refl,R1,re.go g1 R,hf⟩,?_⟩
 rintro i m σ2 H2 ⟨rfl,hi,env2,S2,ρ2,h2,g2,R2,re2,ev⟩
 by_cases hlt:i < xs.length
 ·rw[bM hlt]at ev
  simp only[gr]at ev
  obtain⟨st,ev⟩:=aa ev
  obtain⟨_,sn2⟩:=sn i S2 ρ2 h2 H2 (g2.w R1) R2 st
  obtain⟨go,yl⟩:=sn2 xs[i] (by simp[hlt])
  refine .inr ⟨go,Wit (i + 1),fun σ' H' w'=>⟨xs.length - (i + 1),by omega,rfl,hlt,w'⟩,fun v H3 y=>?_⟩
  obtain⟨S3,g3,R3,r3⟩:=yl v H3 y
  generalize et:bD g fb xs[i] env2 h2=t at ev
  cases t with
  | none=>
   have ev:jy g fr xs[i] env2 h2=some (c,q,h'):=ev
   simp only[jy]at ev
   split at ev
   rotate_left
   ·cases ev
   rename_i env4 h4 eg
   refine⟨env2,S3,ρ2,h2,xs[i],env4,h4,re2.go g3 R2,R3,r3,eg,fun S4 ρ4 H4 σ4 g4 R4 re4 _=>.inr ?_⟩
   exact⟨env4,S4,ρ4,h4,c,q,h',re4,R4,ev,wq.pre (((g1.trans g2).trans g3).trans g4)⟩
  | some t=>
   have et':=et
   simp only[bD]at et
   split at et
   rotate_left
   ·cases et
   rename_i env4 h4 eg
   refine⟨env2,S3,ρ2,h2,xs[i],env4,h4,re2.go g3 R2,R3,r3,eg,fun S4 ρ4 H4 σ4 g4 R4 re4 _=>.inl ?_⟩
   refine⟨env4,S4,ρ4,h4,t,re4,R4,et,fun S5 ρ5 H5 g5 R5=>?_⟩
   have gg:Go S1 ρ1 h1 H1 S5 ρ5 t.2.2 H5:=(g2.trans g3).trans (g4.trans g5)
   obtain⟨fl,env5,h5⟩:=t
   cases fl with
   | nx=>exact fun σ5 re5=>⟨env5,S5,ρ5,h5,gg,R5,re5,ev⟩
   | ct=>exact fun σ5 re5=>⟨env5,S5,ρ5,h5,gg,R5,re5,ev⟩
   | bk=>cases ev
   | rt d=>cases ev
 ·have e:i=xs.length:=by omega
  subst e
  rw[List.drop_length]at ev
  cases ev
end
section
variable {W:Wd} {X:Cx} {Ex:XK}
theorem qH {c:Expr} {body:List Stmt} {fc:Fc} {fb:bR} {fr:Env→Mm→Option aP} {n:Nat} {pos:Pos} (xw:XW W X) (hp:PassesOwn (model X.prog X.w) X.A X.env X.xe) (hc:PT X c (tC W fc)) (hb:PSs X body (tS W fb)) (hx:PSs X body (bE W fr Ex)):
  PS X (.While c body [] pos) (bE W (fun env h=>iO fc fb fr n env h) Ex):=by
 have both:PSs X body (fun D σ H=>tS W fb D σ H∨bE W fr Ex D σ H):=PSs.or hb hx
 refine (L2.ps_while hp hc both).sub fun N σ H hw=>?_
 obtain⟨env,S,ρ,h,cc,q,h',re,R,hf,wq⟩:=hw
 try dsimp only at hf
 let Wit:Nat→L2.St→HH→Prop:=fun m σ2 H2=>∃ env2 S2 ρ2 h2,Go S ρ h H S2 ρ2 h2 H2∧RH W H2 S2 ρ2 h2∧RE W H2 S2 ρ2 env2 σ2∧iO fc fb fr m env2 h2=some (cc,q,h')
 refine⟨Wit,⟨n,env,S,ρ,h,.refl,R,re,hf⟩,?_⟩
 rintro m σ2 H2 ⟨env2,S2,ρ2,h2,g2,R2,re2,ev⟩
 cases m with
 | zero=>cases ev
 | succ m=>
  simp only[iO]at ev
  split at ev
  rotate_left
  ·cases ev
  rename_i h3 ec
  refine⟨env2,S2,ρ2,h2,true,h3,re2,R2,ec,fun S3 ρ3 H3 g3 R3=>?_⟩
  show ite _ _ _
  rw[if_pos rfl]
  refine⟨Wit m,fun σ' H' w'=>⟨m,Nat.lt_succ_self _,w'⟩,?_⟩
  generalize et:fb env2 h3=t at ev
  cases t with
  | none=>
   exact .inr ⟨env2,S3,ρ3,h3,cc,q,h',re2.go g3 R2,R3,ev,wq.pre (g2.trans g3)⟩
  | some t=>
   refine .inl ⟨env2,S3,ρ3,h3,t,re2.go g3 R2,R3,et,fun S5 ρ5 H5 g5 R5=>?_⟩
   have gg:Go S ρ h H S5 ρ5 t.2.2 H5:=(g2.trans g3).trans g5
   obtain⟨fl,env5,h5⟩:=t
   cases fl with
   | nx=>exact fun σ5 re5=>⟨env5,S5,ρ5,h5,gg,R5,re5,ev⟩
   | ct=>exact fun σ5 re5=>⟨env5,S5,ρ5,h5,gg,R5,re5,ev⟩
   | bk=>cases ev
   | rt d=>cases ev
end
open L2 (upd upd_same upd_ne ne_of ne_of_none Cx VK XK WX Takes Inv RelV HOk ObjOk PE PA PS PSs PT PI PG TE TA TS Room FnOk Gl Binds Cls Meth PassesAt WE passAt Hp Vals CXT Raises MkP PMk exo exd exo_ok exd_ok exo_at exd_at at_ne exo_own exo_tup exo_frz exo_tbl relO_put within_of RelO Un Ends)
structure XiC (K:PySem.W.Frag) (C:Addr) (B newId initId:String) (bmB:List Value):Prop where
 F:ExcBaseFacts B newId initId bmB
 SF:StoreFacts B bmB "object.__setattr__" "object"
 q:PySem.W.excInitIn K C bmB newId=true
 ov:PySem.W.excOver K C bmB=true
 hd:PySem.W.hasDictIn K C=true
 sa:PySem.W.findIn K (.ref C) "__setattr__" = some (some (.builtin "object.__setattr__"))
 exC:PySem.W.subIn K (.ref C) (.type "BaseException")=some true
 tyC:PySem.W.typeIn K (.ref C)=some (.type "type")
 kC:PySem.W.keepIn K (.ref C)=true
section
open Builtin Builtin.ObjectAttr
variable {prog:Program} {w:World} {A:Around} {R:Result→Shared→Prop} {hp:Heap} {g:Array GenState} {d:Drawn} {t:Nat} {os:OsState} {K:PySem.W.Frag} {B:String} {bmB:List Value} {name:Str} {tk:Tok} {v:Value} {x C dx:Addr} {fv:Array Value}
theorem hV (ha:PySem.W.findIn K (.ref C) name=some none):PySem.W.takerIn K C name=some none:=by
 unfold PySem.W.takerIn
 rw[ha]<;>rfl
theorem qC (SF:StoreFacts B bmB "object.__setattr__" "object") (X:K.In hp) (hx:hp.get? x=some { cls:=.ref C,data:=.fields fv }) (hov:PySem.W.excOver K C bmB=true) (hD:PySem.W.hasDictIn K C=true) (ha:PySem.W.findIn K (.ref C) name=some none)
  (hq:∀ h' tk' dx,(∀ b o,b≠x→hp.get? b=some o→h'.get? b=some o)→hp.objs.size≤dx→dx≠x→h'.get? x=some { cls:=.ref C,dict:=some dx,data:=.fields fv } →
   h'.Ns1 dx (fun y=>if y=name then some v else none)→R (.ok (.ret .none)) ⟨h',g,d,tk',os⟩):
  codeAny (model prog w) A (.call (.builtin "object.__setattr__") ⟨[.ref x,.str name tk,v],[]⟩) R ⟨hp,g,d,t,os⟩:=by
 have I:PySem.W.InstAt hp x { cls:=.ref C,data:=.fields fv } C none:=⟨hx,rfl,rfl,trivial⟩
 have hxs:x≠hp.objs.size:=Nat.ne_of_lt (Heap.lt_size hx)
 refine PySem.W.osa_openX SF X I hov (hV ha) fun b=>?_
 obtain⟨cd,hcd,hh⟩:=PySem.W.any_some hD
 have hcls:PySem.W.Looks (model prog w) hp (classData C) cd:=PySem.W.looks_clsIn X hcd
 show wpAny _ _ (storeInOwnDict (.ref x) (.ref C) (.str name tk) name v b) _ _ _
 obtain⟨nm,bs,mro,ns,qn,hd,sn,sb,ab,col,del⟩:=cd
 dsimp only at hh
 subst hh
 unfold storeInOwnDict ownDictForStores
 repeat (first | with_reducible refine HandSPX.store_in_new ?_ ?_ | with_reducible refine wpAny_loadPart_at hx ?_ | with_reducible refine hcls.at ?_ | wp_step)
 ·exact⟨_,#[],_,(Heap.get?_update_ne _ _ _ _ hxs.symm).trans (Heap.get?_push_at rfl rfl),rfl,fun e he=>absurd he (by simp),fun _=>rfl⟩
 ·intro h' tk' hn' hs
  have hx₁:(hp.push { cls:=.type "dict",data:=.dict #[] }).get? x=some { cls:=.ref C,data:=.fields fv }:=Heap.get?_push_of_some _ hx
  refine hq h' tk' hp.objs.size (fun b o hb ho=>?_) (Nat.le_refl _) hxs.symm ?_ hn'
  ·exact (hs.2 b (Nat.ne_of_lt (Heap.lt_size ho))).trans ((Heap.get?_update_ne _ _ _ _ hb).trans (Heap.get?_push_of_some _ ho))
  ·exact (hs.2 x hxs).trans (Heap.get?_update_self _ hx₁ rfl)
theorem pT {m0:Str→Option Value} {nl:List Str} (SF:StoreFacts B bmB "object.__setattr__" "object") (X:K.In hp) (hx:hp.get? x=some { cls:=.ref C,dict:=some dx,data:=.fields fv }) (hns:hp.Ns1 dx m0) (hw:Within m0 nl) (hz:nl.length≤1000)
  (hov:PySem.W.excOver K C bmB=true) (hD:PySem.W.hasDictIn K C=true) (ha:PySem.W.findIn K (.ref C) name=some none)
  (hq:∀ h' tk',(∀ b o,b≠dx→hp.get? b=some o→h'.get? b=some o)→h'.Ns1 dx (fun y=>if y=name then some v else m0 y)→R (.ok (.ret .none)) ⟨h',g,d,tk',os⟩):
  codeAny (model prog w) A (.call (.builtin "object.__setattr__") ⟨[.ref x,.str name tk,v],[]⟩) R ⟨hp,g,d,t,os⟩:=by
 obtain⟨oD,esD,epD,hoD,hdD,_⟩:=hns.count hw
 have I:PySem.W.InstAt hp x { cls:=.ref C,dict:=some dx,data:=.fields fv } C (some oD):=⟨hx,rfl,rfl,hoD⟩
 refine PySem.W.osa_openX SF X I hov (hV ha) fun b=>?_
 obtain⟨cd,hcd,hh⟩:=PySem.W.any_some hD
 have hcls:PySem.W.Looks (model prog w) hp (classData C) cd:=PySem.W.looks_clsIn X hcd
 show wpAny _ _ (storeInOwnDict (.ref x) (.ref C) (.str name tk) name v b) _ _ _
 obtain⟨nm,bs,mro,ns,qn,hd,sn,sb,ab,col,del⟩:=cd
 dsimp only at hh
 subst hh
 unfold storeInOwnDict ownDictForStores
 repeat (first | with_reducible refine PySem.OEX.store_in_old hns hw hz ?_ | with_reducible refine wpAny_loadPart_at hx ?_ | with_reducible refine hcls.at ?_ | wp_step)
 intro h' tk' hn' hs
 exact hq h' tk' (fun b o hb ho=>(hs.2 b hb).trans ho) hn'
end
section
variable {X:Cx} {pins:List (Addr×Obj)} {σ:L2.St} {H:Hp} {s:Shared} {a C dx:Addr} {f:Str} {y:L2.V} {u:Value} {fs:List (Str×L2.V)} {Q:Unit→Shared→Prop} {E:Value→Shared→Prop} {A:Around} {B newId initId:String} {bmB:List Value}
theorem u6 (T:XiC X.K C B newId initId bmB) (I:Inv X pins σ H s) (e:H a=some (exo a C none)) (hno:PySem.W.findIn X.K (.ref C) f=some none) (ry:RelV y u)
  (h:∀ dx s',H dx=none→dx≠a→Inv X pins σ (upd (upd H dx (exd dx [(f,y)])) a (exo a C (some dx))) s'→Q () s'):wpAny (model X.prog X.w) A (setAttr (.ref a) f u) Q E s:=by
 obtain⟨t1,ho⟩:=exo_at I.hok e
 obtain⟨hp,g,d,t,os⟩:=s
 refine PySem.W.set_plain I.kIn (ox:={ cls:=.ref C,dict:=none,data:=.fields #[.ref t1,.none,.none,.none,.bool false,.none] }) (od:=none) ⟨ho,rfl,rfl,trivial⟩ T.sa ?_
 refine qC T.SF I.kIn ho T.ov T.hd hno (fun h' tk' dx k dn dne hx hn=>?_)
 have hnd:H dx=none:=I.hok.fresh dn
 have nd:∀ {b:Addr} {o:Obj},hp.get? b=some o→b≠dx:=fun {b o} q=>Nat.ne_of_lt (Nat.lt_of_lt_of_le (Heap.lt_size q) dn)
 have na:∀ {b:Addr},H b=none→b≠a:=fun {b} n z=>by
  rw[z,e]at n
  cases n
 have Un1:Un X.fs [] H (upd (upd H dx (exd dx [(f,y)])) a (exo a C (some dx))) hp h':={
  keep:=fun b o q n _ _=>k b o (na n) q
  slot:=fun b o q n _ _=>⟨o.slots,k b o (na n) q⟩
  free:=fun b o q n _=>by rw[upd_ne (na n),upd_ne (nd q)];exact n
  there:=fun b o q _=>by
   by_cases hb:b=a
   ·exact⟨_,by rw[hb];exact hx⟩
   ·exact⟨o,k b o hb q⟩
  tups:=fun b xs q=>by rw[upd_ne (at_ne e q exo_tup),upd_ne (ne_of_none q hnd)];exact q
  frzs:=fun b o v q=>by rw[upd_ne (at_ne e q exo_frz),upd_ne (ne_of_none q hnd)];exact q
  tbls:=fun b ps q=>⟨#[],by rw[upd_ne (at_ne e q exo_tbl),upd_ne (ne_of_none q hnd),q];simp⟩ }
 refine h dx _ hnd dne (I.un (t':=tk') Un1 fun b o q=>?_)
 by_cases hb:b=a
 ·subst hb
  rw[upd_same]at q
  cases q
  exact exo_ok hx
 ·rw[upd_ne hb]at q
  by_cases hd:b=dx
  ·subst hd
   rw[upd_same]at q
   cases q
   exact exd_ok hn (relO_put (fs:=[]) ry fun g=>True.intro)
  ·rw[upd_ne hd]at q
   exact (I.hok b o q).stay (fun c v hc z=>k c v (by
     rcases hc with hc | hc
     ·rw[hc]
      exact hb
     ·exact at_ne e hc exo_own) z)
    (fun c hc=>by rw[upd_ne (at_ne e hc exo_own),upd_ne (ne_of_none hc hnd)];exact hc) (fun c xs hc=>by rw[upd_ne (at_ne e hc exo_tup),upd_ne (ne_of_none hc hnd)];exact hc)
theorem vr (T:XiC X.K C B newId initId bmB) (I:Inv X pins σ H s) (e:H a=some (exo a C (some dx))) (ed:H dx=some (exd dx fs)) (hl:fs.length≤900) (hno:PySem.W.findIn X.K (.ref C) f=some none) (ry:RelV y u)
  (h:∀ s',Inv X pins σ (upd H dx (exd dx ((f,y) :: fs))) s'→Q () s'):wpAny (model X.prog X.w) A (setAttr (.ref a) f u) Q E s:=by
 obtain⟨t1,ho⟩:=exo_at I.hok e
 obtain⟨mA,hns,rel⟩:=exd_at I.hok ed
 have hw:=within_of rel
 obtain⟨hp,g,d,t,os⟩:=s
 obtain⟨oD,_,_,hoD,_,_⟩:=hns.count hw
 refine PySem.W.set_plain I.kIn (ox:={ cls:=.ref C,dict:=some dx,data:=.fields #[.ref t1,.none,.none,.none,.bool false,.none] }) (od:=some oD) ⟨ho,rfl,rfl,hoD⟩ T.sa ?_
 refine pT T.SF I.kIn ho hns hw (by rw[List.length_map];omega) T.ov T.hd hno (fun h' tk' k hn=>?_)
 have hd:∃ o,h'.get? dx=some o:=by
  obtain⟨o,_,_,e',_⟩:=hn
  exact⟨o,e'⟩
 exact h _ (I.write (t':=tk') (x:=dx) (e:=dx) (o:=exd dx ((f,y) :: fs)) (by rw[ed];exact True.intro) (.inl rfl) k hd (exd_ok hn (relO_put ry rel)))
theorem ul {us:List Value} {Q:Value→Shared→Prop} (T:XiC X.K C B newId initId bmB) (I:Inv X pins σ H s) (e:H a=some (exo a C none)) (hl:us.length≤sizeLine) (h:∀ s',Inv X pins σ H s'→Q .none s'):
  wpAny (model X.prog X.w) A (PySem.call (.builtin initId) (.ref a :: us)) Q E s:=by
 obtain⟨nm,N,qn,bs,bm,hdct,sn,sub,ab,col,dd,k0,k1,k2,k3,k5,hC,hT⟩:=PySem.W.excInit_of I.kIn T.q
 obtain⟨t1,ho⟩:=exo_at I.hok e
 obtain⟨hp,g,d,t,os⟩:=s
 refine wpAny_call (PySem.HandSPX.init_base T.F hT hC ho hl fun h' t2 k hx=>?_)
 have J:=I.write (t':=t) (x:=a) (e:=a) (o:=exo a C none) (by rw[e];exact True.intro) (.inl rfl) k ⟨_,hx⟩ (exo_ok hx)
 have eu:upd H a (exo a C none)=H:=by
  funext b
  by_cases hb:b=a
  ·rw[hb,upd_same,e]
  ·rw[upd_ne hb]
 rw[eu]at J
 exact h _ J
end
open L2 (upd upd_same upd_ne ne_of ne_of_none Cx VK XK WX Inv RelV HOk ObjOk PE PA PS PSs PT PI PG TE TA TS Room FnOk Gl Binds Cls Meth PassesAt WE Hp Vals CXT Raises exo exd exo_ok thn Ends Names Zc Sky frs SP store_ok Loc FunD FnScope)
open L2H (RoomH FnH HotC Hot1 PinOk PMk5 Six suiteX cxH)
open HotX (HotAt raiseNew_hot set_other set_size)
open PySem PySem.Spec PyProof.Rows GenW
open L2 (upd upd_same upd_ne Cx VK Inv RelV HOk PE PT PA PW TE TT TA thn Room PG PGs TG TGs PI TI Turn FpOk PS PSs Ends TS SP XK V Vals Hp frs FnOk pinsAt of_pinsAt mem_pinsAt Un)
def Y1 (X:Cx) (Q:VK):Protocol:=fun n s₀ v s kap=>∃ x pins σ H,RelV x v∧Inv X pins σ H s∧Q x H
structure C1 (X:Cx) (A:Around) (c:Code) (fs:List Frame) (gd:Bool→Bool):Prop where
 over:A.over c fs=X.A
 split:splitAtGen fs=none
 guard:fs.any Frame.guarded=false
 gd:gd false=false
structure K1 (X:Cx) (A:Around) (R:GenEnd) (c:Code) (fs:List Frame) (K:Flow→Sem PySem.Fin) (J:Value→Sem PySem.Fin) (pins:List (Addr×Obj)) (D:Ends):Prop where
 ok:∀ (s₀ s:Shared) (f:Flow),SP X pins { D with rt:=fun _ _=>False } f s→Seg (model X.prog X.w) A R (Y1 X D.rt) 1 s₀ c (K f) fs s
 exc:∀ (s₀:Shared) (e:Value) (s:Shared),X.xe e s→Seg (model X.prog X.w) A R (Y1 X D.rt) 1 s₀ c (J e) fs s
structure G1 (X:Cx) (st:Stmt) (t:TS):Prop where
 run:∀ (A:Around) (R:GenEnd) (pins:List (Addr×Obj)) (s₀:Shared) (c:Code) (fs:List Frame) (K:Flow→Sem PySem.Fin) (J:Value→Sem PySem.Fin) (gd:Bool→Bool) (lv:List Value→List Value) (s:Shared) (σ:L2.St) (H:Hp) (D:Ends),
  C1 X A c fs gd→K1 X A R c fs K J pins D→Inv X pins σ H s→t D σ H→Seg (model X.prog X.w) A R (Y1 X D.rt) 1 s₀ c ((exec st X.env).wrap K J gd lv) fs s
structure G1s (X:Cx) (st:List Stmt) (t:TS):Prop where
 run:∀ (A:Around) (R:GenEnd) (pins:List (Addr×Obj)) (s₀:Shared) (c:Code) (fs:List Frame) (K:Flow→Sem PySem.Fin) (J:Value→Sem PySem.Fin) (gd:Bool→Bool) (lv:List Value→List Value) (s:Shared) (σ:L2.St) (H:Hp) (D:Ends),
  C1 X A c fs gd→K1 X A R c fs K J pins D→Inv X pins σ H s→t D σ H→Seg (model X.prog X.w) A R (Y1 X D.rt) 1 s₀ c ((execs st X.env).wrap K J gd lv) fs s
section
variable {X:Cx} {st:Stmt} {rest:List Stmt} {e:Expr} {pos yp:Pos}
theorem wC {t:TS} (h:PS X st t):G1 X st fun D σ H=>t { D with rt:=fun _ _=>False } σ H:=by
 refine⟨fun A R pins s₀ c fs K J gd lv s σ H D g k I ht=>?_⟩
 refine seg_wrap ?_
 rw[g.over]
 exact wpAny_mono (h.run _ s σ H _ I ht) (fun f s' hs=>k.ok s₀ s' f hs) fun x s' hx=>k.exc s₀ x s' hx
theorem sP:G1s X [] fun D σ H=>D.nx σ H:=by
 refine⟨fun A R pins s₀ c fs K J gd lv s σ H D g k I ht=>?_⟩
 exact seg_execs_nil (k.ok s₀ s .next ⟨σ,H,I,ht⟩)
theorem qz {t u:TS} (a:G1 X st t) (b:G1s X rest u):G1s X (st :: rest) fun D σ H=>t { D with nx:=fun σ' H'=>u D σ' H' } σ H:=by
 refine⟨fun A R pins s₀ c fs K J gd lv s σ H D g k I ht=>?_⟩
 refine seg_execs_cons ?_
 refine a.run A R pins s₀ c fs _ J gd lv s σ H { D with nx:=fun σ' H'=>u D σ' H' } g ⟨fun s₀' s' f hs=>?_,k.exc⟩ I ht
 cases f with
 | next=>
  obtain⟨σ',H',I',q⟩:=hs
  exact b.run A R pins s₀' c fs K J gd lv s' σ' H' D g k I' q
 | brk=>exact k.ok s₀' s' .brk hs
 | cont=>exact k.ok s₀' s' .cont hs
 | ret u=>exact k.ok s₀' s' (.ret u) hs
theorem oZ {te:TE} (he:PE X e te) (hco:X.env.scope.isCoroutine=false):G1 X (.Expr (.Yield (some e) yp) pos) fun D σ H=>te σ H D.rt:=by
 refine⟨fun A R pins s₀ c fs K J gd lv s σ H D g k I ht=>?_⟩
 refine seg_Expr_Yield g.split g.gd g.guard ?_ hco I.quiet
 rw[g.over]
 refine wpAny_mono (he.run _ s σ H _ I ht) (fun v s' hv=>?_) fun x s' hx=>k.exc s₀ x s' hx
 obtain⟨x,H1,I1,rv,q⟩:=hv
 intro kap hk
 exact⟨x,pins,σ,H1,rv,I1,q⟩
theorem wU {test:Expr} {as bs:List Stmt} {tc:TT} {ta tb:TS} (hc:PT X test tc) (ha:G1s X as ta) (hb:G1s X bs tb):G1 X (.If test as bs pos) fun D σ H=>tc σ H fun b H1=>if b=true then ta D σ H1 else tb D σ H1:=by
 refine⟨fun A R pins s₀ c fs K J gd lv s σ H D g k I ht=>?_⟩
 rw[exec_If]
 refine seg_at ?_
 show Seg _ _ _ _ _ _ _ ((isTrue test X.env (eval test X.env) >>= fun b=>if b=true then execs as X.env else execs bs X.env).wrap K J gd lv) _ _
 refine seg_bind_wrap ?_
 rw[g.over]
 refine wpAny_mono (hc.run _ s σ H _ I ht) (fun b s' hb'=>?_) fun x s' hx=>k.exc s₀ x s' hx
 obtain⟨H1,I1,q⟩:=hb'
 cases b with
 | true=>
  rw[if_pos rfl]at q ⊢
  exact ha.run A R pins s₀ c fs K J gd lv s' σ H1 D g k I1 q
 | false=>
  rw[if_neg Bool.false_ne_true]at q ⊢
  exact hb.run A R pins s₀ c fs K J gd lv s' σ H1 D g k I1 q
end
end Ev
namespace Ev
open PySem PySem.Spec PyProof.Rows GenW
open L2 (upd upd_same upd_ne Cx VK Inv RelV HOk PE PT PA PW TE TT TA thn Room PG PGs TG TGs PI TI Turn FpOk PS PSs Ends TS SP XK V Vals Hp frs FnOk pinsAt of_pinsAt mem_pinsAt Un)
section
variable {X:Cx} {e:Expr} {pos yp:Pos}
theorem C1.loop {A:Around} {c c':Code} {fs:List Frame} {gd:Bool→Bool} {k:Result→Sem PySem.Fin} {l kp:List Value} {p:Pos} (g:C1 X A c fs gd) (hw:c'.weight=0) (hu:c'.cUnits=0):
  C1 X A c' (.ret k none (gd false) l c p kp :: fs) (fun b=>id (id b)) where
 over:=(over_loop hw hu).trans g.over
 split:=by
  show (splitAtGen fs).map _=none
  rw[g.split];rfl
 guard:=by
  show (gd false||fs.any Frame.guarded)=false
  rw[g.gd,g.guard];rfl
 gd:=rfl
theorem vZ {tg iter:Expr} {body:List Stmt} {wi:TI} {g:TG} {tb:TS} (hx:∀ e s,X.xe e s→False) (hc:X.calm=true) (hi:PI X tg iter wi) (hg:PG X tg g) (hb:G1s X body tb)
  (hs:∀ x,foldedSetIterable iter X.env x=pure x):G1 X (.For tg iter body [] pos) (L2.tFor wi g tb):=by
 refine⟨fun A R pins s₀ c fs K J gd lv s σ H D gc k I ht=>?_⟩
 have no:∀ {s₀:Shared} {c':Code} {fs':List Frame} {t:Sem PySem.Fin} (e:Value) (s:Shared),X.xe e s→Seg (model X.prog X.w) A R (Y1 X D.rt) 1 s₀ c' t fs' s:=fun e s z=>(hx e s z).elim
 rw[exec_For]
 refine seg_at ?_
 show Seg _ _ _ _ _ _ _ ((eval iter X.env >>= fun v=>foldedSetIterable iter X.env v >>= fun x=>standAt iter.pos >>= fun _=>holding [x] (pyIter x) >>= fun it=>runOwn (.forLoop tg it body [] X.env) X.env).wrap K J gd lv) _ _
 refine seg_bind_wrap ?_
 rw[gc.over]
 refine wpAny_mono (hi.run pins s σ H _ I ht) (fun v s1 h1=>?_) fun e s z=>no e s z
 refine seg_bind_wrap (wpAny_of_eq (hs v) ?_)
 refine seg_at ?_
 show Seg _ _ _ _ _ _ _ ((holding [v] (pyIter v) >>= fun it=>runOwn (.forLoop tg it body [] X.env) X.env).wrap K J gd lv) _ _
 refine seg_bind_wrap (wpAny_holding ?_)
 rw[gc.over]
 refine wpAny_mono h1 (fun itv s2 h2=>?_) fun e s z=>no e s z
 obtain⟨it,fp,tn,Jt,H2,e,I2,T,st2,f2,W,⟨m0,w0⟩,turn⟩:=h2
 subst e
 refine seg_call fun p=>?_
 have stat:∀ {H':Hp},(∀ b∈fp,H' b=none)→∀ b∈fp,FpOk X pins H' b:=fun hn b hb=>⟨hn b hb,(f2 b hb).2⟩
 have gl:=fun (kk:Result→Sem PySem.Fin)=>C1.loop (k:=kk) (c':=.forLoop tg (.ref it) body [] X.env) (l:=lv []) (kp:=[]) (p:=p) gc rfl rfl
 have loop:∀ (n i:Nat) (s₀ s3:Shared) (σ3:L2.St) (H3:Hp),Inv X pins σ3 H3 s3→tn i s3.heap→(∀ b∈fp,H3 b=none)→W i n σ3 H3 →
   Seg (model X.prog X.w) A R (Y1 X D.rt) 1 s₀ (.forLoop tg (.ref it) body [] X.env) ((model X.prog X.w).den (.forLoop tg (.ref it) body [] X.env))
    (.ret (fun r=>((match r with | .ok f=>(.pure f:Sem Flow) | .error e=>.raise e).onRaise (L2.cameBack X.env)).wrap K J gd lv) none (gd false) (lv []) c p [] :: fs) s3:=by
  intro n
  induction n using Nat.strongRecOn with
  | ind n ih=>
   intro i s₀ s3 σ3 H3 I3 st3 fr3 w3
   show Seg _ A R _ _ _ _ ((forTurn tg (.ref it) body [] X.env).onRaise (fun x=>do noteFrame x X.env;theTreesLotGoes x)) _ s3
   unfold forTurn
   rw[Sem.onRaise_eq_wrap]
   refine seg_bind_wrap (wpAny_standAt ?_)
   refine seg_bind_wrap ?_
   rw[(gl _).over]
   rcases turn i n σ3 H3 w3 with ⟨stop,qn⟩ | ⟨go,N,hN,aL⟩
   ·refine wpAny_onRaise (wpAny_mono (T.done X rfl rfl rfl hc i pins s3 σ3 H3 X.xe I3 (stat fr3) st3 stop) (fun r s4 ⟨hr,I4⟩=>?_) fun e s z=>(hx e s z).elim)
    subst hr
    refine seg_again rfl ?_
    show Seg _ A R _ _ _ _ (.pure (.done .next)) _ _
    exact seg_leaf (.ok .next) (k.ok s₀ s4 .next ⟨σ3,H3,I4,qn⟩)
   ·refine wpAny_onRaise (wpAny_mono (T.item X rfl rfl rfl hc i pins s3 σ3 H3 X.xe I3 (stat fr3) st3 go) (fun r s4 ⟨u,hr,h4⟩=>?_) fun e s z=>(hx e s z).elim)
    subst hr
    refine seg_bind_wrap ?_
    rw[(gl _).over]
    refine wpAny_mono h4 (fun _ s5 ⟨x,H5,I5,r5,y5,st5,fr5⟩=>?_) fun e s z=>no e s z
    have I5':=I5.pinned (stat fr5) (T.obj _ _ st5)
    refine seg_bind_wrap ?_
    rw[(gl _).over]
    refine wpAny_mono (hg.run _ s5 σ3 H5 x u _ I5' r5 (aL x H5 y5)) (fun _ s6 ⟨σ6,H6,I6,q6⟩=>?_) fun e s z=>no e s z
    rw[Sem.bind_eq_wrap',Sem.wrap_wrap]
    refine hb.run A R _ s₀ _ _ _ _ _ _ s6 σ6 H6 { D with nx:=N,ct:=N,bk:=D.nx } (gl _) ⟨fun s₀' s7 f hs=>?_,fun s₀' e s z=>no e s z⟩ I6 q6
    have again:∀ {σ7:L2.St} {H7:Hp},Inv X (pins++pinsAt fp s5.heap) σ7 H7 s7→N σ7 H7→∃ m,m < n∧Inv X pins σ7 H7 s7∧tn (i + 1) s7.heap∧(∀ b∈fp,H7 b=none)∧W (i + 1) m σ7 H7:=fun {σ7 H7} I7 n7=>by
     obtain⟨m',hm,w7⟩:=hN σ7 H7 n7
     refine⟨m',hm,I7.unpinned,T.keep _ _ _ st5 fun b hb o e=>(I7.pin (b,o) (List.mem_append_right _ (List.mem_append_right _ (mem_pinsAt hb e)))).1,fun b hb=>?_,w7⟩
     obtain⟨o,e,d⟩:=T.obj _ _ st5 b hb
     exact (I7.pin (b,o) (List.mem_append_right _ (List.mem_append_right _ (mem_pinsAt hb e)))).2.1
    cases f with
    | next=>
     obtain⟨σ7,H7,I7,n7⟩:=hs
     obtain⟨m,hm,I8,t8,f8,w8⟩:=again I7 n7
     exact seg_again rfl (ih m hm (i + 1) s₀' s7 σ7 H7 I8 t8 f8 w8)
    | cont=>
     obtain⟨σ7,H7,I7,n7⟩:=hs
     obtain⟨m,hm,I8,t8,f8,w8⟩:=again I7 n7
     exact seg_again rfl (ih m hm (i + 1) s₀' s7 σ7 H7 I8 t8 f8 w8)
    | brk=>
     obtain⟨σ7,H7,I7,q7⟩:=hs
     exact seg_leaf (.ok .next) (k.ok s₀' s7 .next ⟨σ7,H7,I7.unpinned,q7⟩)
    | ret v=>obtain⟨x7,σ7,H7,I7,r7,q7⟩:=hs;exact q7.elim
 exact loop m0 0 s₀ s2 σ H2 I2 st2 (fun b hb=>(f2 b hb).1) w0
end
open L2 (upd upd_same upd_ne Cx VK Inv RelV HOk PE PT PA PW TE TT TA thn Room PG PGs TG TGs PI TI Turn FpOk PS PSs Ends TS SP XK V Vals Hp frs FnOk Un GScope gcxOf inv_startG seg_imp Env0 Mod start allBare_setGen setGen_at next_genG)
abbrev m9:=List V→Hp→VK→(Hp→Prop)→Prop
def jJ:XK:=fun _ _ _=>False
def vL (P:Program) (w:World) (outer:List PySem.Env) (H:Hp) (s:Shared) (Qn:Hp→Prop):GenEnd:=fun n s₀ r s1=>
 ((r = .ok (.ret .none)∨r = .ok .next)∧∃ H',s1.os=s.os∧AllBare s1.gens∧Un (frs outer) [] H H' s.heap s1.heap∧HOk P w H' s1.heap∧Qn H')∨∃ e,r = .error e∧False
def r9 (P:Program) (w:World) (outer:List PySem.Env) (H:Hp) (s:Shared) (a:Addr) (g:Nat) (Qy:VK):Protocol:=fun n s₀ v s1 kap=>
 ∃ x H',RelV x v∧s1.os=s.os∧AllBare s1.gens∧s1.heap.IsGen a g∧Un (frs outer) [] H H' s.heap s1.heap∧HOk P w H' s1.heap∧Qy x H'
def mI (P:Program) (w:World) (k:Nat) (outer:List PySem.Env) (H:Hp) (s:Shared) (Qy:VK) (Qn:Hp→Prop) (u:Value) (s':Shared):Prop:=
 ∃ (a:Addr) (g:Nat) (c:Code),u = .ref a∧s.heap.objs.size≤a∧a < s'.heap.objs.size∧s'.heap.IsGen a g∧s'.gens[g]? = some (.fresh c)∧s'.os=s.os∧AllBare s'.gens∧s'.heap.NoLimit∧(∀ b o,s.heap.get? b=some o→s'.heap.get? b=some o) ∧
  ∀ (A:Around) (s2:Shared),Room k A→A.frames=some outer→(∀ b o,s'.heap.get? b=some o→s2.heap.get? b=some o)→s2.os=s.os→AllBare s2.gens →
   Seg (model P w) A (vL P w outer H s Qn) (r9 P w outer H s a g Qy) 1 s2 c ((model P w).den c) [] s2
structure GFn1 (P:Program) (w:World) (K:PySem.W.Frag) (mg:Str→Option Value) (base:Heap) (k:Nat) (f:Addr) (fd:FuncData) (ps:List Str) (sp:m9):Prop where
 len:∀ vs H Qy Qn,sp vs H Qy Qn→vs.length=ps.length
 run:∀ (A:Around) (outer:List PySem.Env) (s:Shared) (H:Hp) (args:Args) (us:List Value) (vs:List V) (Qy:VK) (Qn:Hp→Prop),Room k A→Env0 P w K mg base A outer s H→BindsTo s fd args (ps.zip us)→Vals vs us→sp vs H Qy Qn →
  codeAny (model P w) A (.call (.ref f) args) (fun r s'=>match r with | .ok (.ret u)=>mI P w k outer H s Qy Qn u s' | _=>False) s
theorem sF {P:Program} {w:World} {K:PySem.W.Frag} {mg:Str→Option Value} {base:Heap} {k:Nat} {f:Addr} {name qual:Str} {params:Arguments} {body:List Stmt} {scope:Scope} {dV kV doc pm cdv ct oc:Value} {an od:Option Addr}
  {osl:Array (Option Value)} {N ps:List Str} {sp:m9} (lk:K.lookup f=some ⟨oc,od,.func (PySem.W.fnOf name qual params body scope dV kV doc pm an cdv ct),osl⟩) (hcd:PySem.W.codeIn K cdv qual=true) (S:GScope N ps scope)
  (len:∀ vs H Qy Qn,sp vs H Qy Qn→vs.length=ps.length)
  (hbody:∀ (A:Around) (outer:List PySem.Env) (s:Shared) (H:Hp) (vs:List V) (Qy:VK) (Qn:Hp→Prop) (pn:List (Addr×Obj)),Room k (A.deeper (envOfC qual scope s.heap.objs.size f cdv))→sp vs H Qy Qn →
   ∃ t,G1s (gcxOf P w K mg base N qual scope f cdv A outer s H jJ pn).nox body t∧t { nx:=fun _ H'=>Qn H',rt:=Qy } (start N vs) H):
  GFn1 P w K mg base (k + 1) f (PySem.W.fnOf name qual params body scope dV kV doc pm an cdv ct) ps sp:=by
 refine⟨len,fun A outer s H args us vs Qy Qn hr e0 hb r hsp=>?_⟩
 have hl:=len _ _ _ _ hsp
 have KX:K.In s.heap:=e0.mod.kin.keeps fun b o e=>(e0.bs b o e).1
 have lim:s.heap.NoLimit:=e0.mod.nolimit.keeps fun b o e=>(e0.bs b o e).1
 have hkind:∀ y∈ps.zip us,scope.names.lookup y.1=some .local∨(scope.names.lookup y.1=some .cell∧((cellsFrom (s.heap.objs.size + 1) scope.names []).lookup y.1).isSome=true):=fun ⟨n,v⟩ hy=>by
  rcases S.par n (List.of_mem_zip hy).1 with q | q
  ·exact .inl q
  ·exact .inr ⟨q,PySem.W.cellsFrom_some _ _ _ (.inl q)⟩
 refine codeAny_call_generator hr.depth (KX _ _ lk) rfl S.co S.gen rfl (PySem.W.codeRec_of KX hcd) (hb _ _ _ _ ?_)
 refine wpAny_newFunctionEnv_cells S.kind hkind fun env he s1 x=>?_
 subst he
 have lim1:s1.heap.NoLimit:=lim.keeps x.toInCall.keep
 refine⟨lim1,?_⟩
 obtain⟨h1,tk,es1,hk1⟩:=x.done
 have os1:s1.os=s.os:=by rw[es1]
 have gen1:s1.gens=s.gens:=by rw[es1]
 have lt1:s.heap.objs.size < s1.heap.objs.size:=x.toInCall.ns.lt
 have sz1:s.heap.objs.size≤s1.heap.objs.size:=Nat.le_of_lt lt1
 have kp1:∀ b o,s.heap.get? b=some o→s1.heap.get? b=some o:=x.toInCall.keep
 have main:∀ (go:Obj) (nm qn:Value) (tk2:Nat),go.cls = .type "generator"→go.data = .fields #[.int s1.gens.size 0,nm,qn]→go.slots = #[]→(∀ h:Heap,(h.push go).get? h.objs.size=some go) →
   mI P w (k + 1) outer H s Qy Qn (.ref s1.heap.objs.size) { s1 with gens:=s1.gens.push (.fresh (.func body (envOfC qual scope s.heap.objs.size f cdv))),toks:=tk2,heap:=s1.heap.push go }:=by
  intro go nm qn tk2 hgc hgd0 hgs hgp
  have hgen:∀ h:Heap,h.get? s1.heap.objs.size=some go→h.IsGen s1.heap.objs.size s1.gens.size:=fun h e=>⟨go,nm,qn,e,hgc,hgd0,hgs⟩
  have hpushed:(s1.heap.push go).get? s1.heap.objs.size=some go:=hgp _
  refine⟨s1.heap.objs.size,s1.gens.size,_,rfl,sz1,?_,hgen _ hpushed,Array.getElem?_push_size ..,os1,?_,lim1.keeps fun b o e=>Heap.get?_push_of_some _ e,fun b o e=>Heap.get?_push_of_some _ (kp1 b o e),?_⟩
  ·show _ < (s1.heap.push _).objs.size
   rw[Heap.size_push];exact Nat.lt_succ_self _
  ·exact AllBare.push (by rw[gen1];exact e0.bare) rfl
  intro Aw s2 hrw hfr hk2 hos hba
  have e0w:Env0 P w K mg base Aw outer s H:=⟨hfr,e0.mod,e0.bs,e0.bsz,e0.funs,e0.frf,e0.hok,e0.bare⟩
  obtain⟨t,ht,hq⟩:=hbody Aw outer s H vs Qy Qn [(s1.heap.objs.size,go)] (hrw.deeper _) hsp
  have I1:Inv (gcxOf P w K mg base N qual scope f cdv Aw outer s H jJ []) [] (start N vs) H s1:=inv_startG S hrw.hd e0w hl r x
  have kp2:∀ b o,s1.heap.get? b=some o→s2.heap.get? b=some o:=fun b o e=>hk2 b o (Heap.get?_push_of_some _ e)
  have I2:Inv (gcxOf P w K mg base N qual scope f cdv Aw outer s H jJ []) [] (start N vs) H s2:=
   I1.call' (ch:=[]) (hos.trans os1.symm) (Un.kept kp2) (I1.hok.kept kp2) hba fun b z=>by simp at z
  have hea:s2.heap.get? s1.heap.objs.size=some go:=hk2 s1.heap.objs.size go hpushed
  have hgd:∀ v,go.data≠.cell v:=fun v q=>by rw[hgd0]at q;cases q
  have I3:Inv (gcxOf P w K mg base N qual scope f cdv Aw outer s H jJ [(s1.heap.objs.size,go)]) [] (start N vs) H s2:=by
   refine Inv.pinnedG I2 fun p hp=>?_
   rw[List.append_nil]at hp
   rw[List.mem_singleton.mp hp]
   exact⟨hea,I1.hok.fresh (Nat.le_refl _),Nat.ne_of_gt lt1,I1.nofs (Nat.le_refl _),hgd⟩
  have I4:=I3.wish fun _ _=>False
  have pinned:∀ {ip:List (Addr×Obj)} {s':Shared} {σ':L2.St} {H':Hp},Inv (gcxOf P w K mg base N qual scope f cdv Aw outer s H jJ [(s1.heap.objs.size,go)]).nox ip σ' H' s'→s'.heap.IsGen s1.heap.objs.size s1.gens.size:=fun {ip s' σ' H'} J=>
   hgen _ (J.pin (s1.heap.objs.size,go) (List.mem_append_left _ (List.mem_singleton.mpr rfl))).1
  refine seg_func ?_
  refine seg_imp (R:=vL P w outer H s Qn) (Y:=Y1 (gcxOf P w K mg base N qual scope f cdv Aw outer s H jJ [(s1.heap.objs.size,go)]).nox Qy) (fun n s₀ r s1' hR=>hR) (fun n s₀ v s1' kap kap' hkk hY=>?_) 1 ?_
  ·obtain⟨x,ip,σ',H',rv,J,q⟩:=hY
   exact⟨x,H',rv,J.os,J.bare,pinned J,J.base,J.hok,q⟩
  ·refine ht.run Aw _ [] s2 _ [] _ _ id id s2 (start N vs) H { nx:=fun _ H'=>Qn H',rt:=Qy } ⟨over_func,rfl,rfl,rfl⟩ ⟨fun s₀ s' fl hs=>?_,fun s₀ e s' hx=>hx.elim⟩ I4 hq
   cases fl with
   | next=>
    obtain⟨σ',H',J,hQ⟩:=hs
    exact seg_end (.ok (.ret .none)) (.inl ⟨.inl rfl,H',J.os,J.bare,J.base,J.hok,hQ⟩)
   | brk=>obtain⟨_,_,_,q⟩:=hs;exact q.elim
   | cont=>obtain⟨_,_,_,q⟩:=hs;exact q.elim
   | ret u=>obtain⟨_,_,_,_,_,q⟩:=hs;exact q.elim
 exact main _ _ _ _ rfl rfl rfl fun h=>Heap.get?_push_size _ rfl
open L2 (upd upd_same upd_ne Cx VK Inv RelV HOk PE PT PA PW TE TT TA thn Room PG PGs TG TGs PI TI Turn FpOk PS PSs Ends TS SP XK V Vals Hp frs FnOk Un GScope Env0 Mod start allBare_setGen setGen_at next_genG Binds Cls Meth getmeth_ok)
structure PGen1 (X:Cx) (k:Nat) (e:Expr) (tg:L2.St→Hp→VK→(Hp→Prop)→Prop):Prop where
 run:∀ (pins:List (Addr×Obj)) (s:Shared) (σ:L2.St) (H:Hp) (Qy:VK) (Qn:Hp→Prop),Inv X pins σ H s→tg σ H Qy Qn→wpAny (model X.prog X.w) X.A (eval e X.env)
  (fun u s'=>∃ H1 sc,Inv X pins σ H1 sc∧mI X.prog X.w k X.stack H1 sc Qy Qn u s') X.xe s
theorem vw {M:Model} {A:Around} {E:Value→Shared→Prop} {s:Shared} {tg:Expr} {it:Addr} {u:Value} {o:Obj} {vs:Array Value} {Q:Unit→Shared→Prop} (ho:s.heap.get? it=some o) (hc:o.cls = .type "generator") (hd:o.data = .fields vs)
  (hQ:Q () s):wpAny M A (letOwnedTupleGo tg (.ref it) u) Q E s:=L2.go_of ho hc hd (by decide) hQ
section
variable {X:Cx} {k:Nat} {f C:Addr} {fd:FuncData} {ps:List Str} {sp:m9} {m:Str} {pos pos' apos:Pos} {o:Expr} {ta:TE}
theorem ij {pl:Sem Bool} (he:PE X o ta) (c:Cls X.K C) (hm:Meth X.K C m f) (F:GFn1 X.prog X.w X.K X.mg X.base k f fd ps sp) (hr:Room k X.A) (hb:Binds X.K fd ps [])
  (ht:eval (.Call (.Attribute o m apos) [] [] pos') X.env=(do
   let ov ← eval o X.env
   standAt apos.atName
   let (f,first) ← holding [ov] (getMethod ov m pl)
   callWith pos' f first (backTo pos' (starEach [] X.env)) (backToKw pos' (keywordEach [] X.env)))):
  PGen1 X k (.Call (.Attribute o m apos) [] [] pos') fun σ H Qy Qn=>ta σ H fun x H1=>∃ a dx fs,x = .ref a∧H1 a=some (.ins C dx fs)∧fs.lookup m=none∧sp [x] H1 Qy Qn:=by
 refine⟨fun pins s σ H Qy Qn I h=>?_⟩
 refine PySem.W.methodCall_KW (pl:=pl) (thn (he.run pins s σ H _ I h) fun u s1 ⟨x,H1,I1,rx,a,dx,fs,ex,ea,l,q⟩=>?_) ht
 subst ex
 obtain rfl:u=Value.ref a:=rx
 refine getmeth_ok I1 ea c hm l ?_
 refine PySem.W.callWith_K0 (first:=[.ref a]) I1.kIn hm.kp ?_
 have r2:Vals [L2.V.ref a] [Value.ref a]:=.cons rfl .nil
 have hl2:([Value.ref a]++[]).length=ps.length:=by
  have:=F.len _ _ _ _ q
  simpa using this
 refine wpAny_call (codeAny_mono (F.run X.A X.stack s1 H1 ⟨[.ref a],[]⟩ [.ref a] [.ref a] Qy Qn hr I1.env0 ?_ r2 q) fun r s' hq=>?_)
 ·have:=hb s1 [.ref a] I1.kIn hl2
  simpa using this
 cases r with
 | error e=>exact False.elim hq
 | ok fl=>
  cases fl with
  | ret u=>exact⟨H1,s1,I1,hq⟩
  | next=>exact False.elim hq
  | brk=>exact False.elim hq
  | cont=>exact False.elim hq
theorem l6 {tgt iter:Expr} {body:List Stmt} {tg:L2.St→Hp→VK→(Hp→Prop)→Prop} {g:TG} {tb:TS} (hp:PassesOwn (model X.prog X.w) X.A X.env X.xe) (hc:X.calm=true) (hi:PGen1 X k iter tg) (hg:PG X tgt g) (hb:PSs X body tb) (hr:Room (k + 1) X.A)
  (hs:∀ x,foldedSetIterable iter X.env x=pure x):PS X (.For tgt iter body [] pos) fun D σ H=>
   tg σ H (fun x H1=>g x σ H1 fun σ2 H2=>tb { D with nx:=fun _ _=>False,ct:=fun _ _=>False,bk:=D.nx } σ2 H2) (fun H1=>D.nx σ H1):=by
 refine⟨fun pins s σ H D I h=>?_⟩
 refine wpAny_For (thn (hi.run pins s σ H _ _ I h) fun v s1 ⟨H1,sc,I1,hG⟩=>?_) hs
 obtain⟨a,gn,c,rfl,ha1,ha2,hgen,hgs,hos,hbare,hl,hkp,wake⟩:=hG
 refine wpAny_pyIter_gen hgen ?_
 refine codeAny_forLoop_any (fun n s'=>s' = s1) (fun n s' hs'=>?_) 0 rfl
 subst hs'
 have hgl:gn < s'.gens.size:=(Array.getElem?_eq_some_iff.mp hgs).1
 refine next_genG (n:=1) (F:=fun n s₀ s₁=>∃ H',s₁.os=sc.os∧AllBare s₁.gens∧Un (frs X.stack) [] H1 H' sc.heap s₁.heap∧HOk X.prog X.w H' s₁.heap∧D.nx σ H') (Er:=fun _ _=>False)
  (Y:=r9 X.prog X.w X.stack H1 sc a gn _) (I1.ok.hd hc) hl hr.depth hgen hgs ⟨rfl,wake X.A.in1 _ hr.in1 I1.ok.frames (fun b o e=>e) hos (allBare_setGen hbare rfl)⟩ (fun v s₁ gs' hb' hv=>?_) (fun s₁ hp h' hk=>?_) fun e s₁ he=>he.elim
 ·obtain⟨x,H',rv,os1,b1,hg1,un,hok,q⟩:=hv
  obtain⟨og,nm,qn,ho,hcl,hd,_⟩:=hg1
  have I2:Inv X pins σ H' (s₁.setGen gn gs'):=I1.call' (ch:=[]) os1 un hok (allBare_setGen b1 hb') fun b z=>by simp at z
  refine vw (s:=s₁.setGen gn gs') ho hcl hd ?_
  refine wpAny_passesOwn hp (thn (hg.run pins _ σ H' x v _ I2 rv q) fun _ s6 ⟨σ6,H6,I6,q6⟩=>?_)
  refine wpAny_passesOwn hp (thn (hb.run pins s6 σ6 H6 _ I6 q6) fun f s7 q7=>?_)
  cases f with
  | next=>obtain⟨_,_,_,z⟩:=q7;exact z.elim
  | cont=>obtain⟨_,_,_,z⟩:=q7;exact z.elim
  | brk=>obtain⟨σ7,H7,I7,q7⟩:=q7;exact⟨σ7,H7,I7,q7⟩
  | ret v=>obtain⟨x7,σ7,H7,I7,r7,q7⟩:=q7;exact⟨x7,σ7,H7,I7,r7,q7⟩
 ·obtain⟨H',os1,b1,un,hok,q⟩:=hp
  have I2:Inv X pins σ H' { s₁.setGen gn .finished with heap:=h' }:=I1.call' (ch:=[]) os1 (un.trans (Un.kept hk)) (hok.kept hk) (allBare_setGen (s:=s₁) b1 rfl) fun b z=>by simp at z
  exact wpAny_execs_nil ⟨σ,H',I2,q⟩
end
open L2 (upd upd_same upd_ne Cx VK Inv RelV HOk PE PT PA PW TE TT TA thn Room PG PGs TG TGs PI TI Turn FpOk Loc PS PSs Ends TS SP XK V Vals Hp frs FnOk Un GScope Env0 Mod start Binds Cls Meth)
def jM (W:Wd) (n:Nat) (g:List D→Mm→Option (D×Mm)):m9:=fun vs H Qy Qn=>vs.length=n∧∃ S ρ h ds d h',RVs W H S ρ ds vs∧RH W H S ρ h∧g ds h=some (d,h') ∧
 ((d = .non∧∀ S' ρ' H',Go S ρ h H S' ρ' h' H'→RH W H' S' ρ' h'→Qn H')∨∃ x,d = .tup [x]∧∀ S' ρ' H' v,Go S ρ h H S' ρ' h' H'→RH W H' S' ρ' h'→RV W H' S' ρ' x v→Qy v H')
section
variable {W:Wd} {X:Cx} {H H':HH} {S S':Addr→Prop} {ρ ρ':aq} {h h':Mm} {pos p:Pos} {tg e a b o i:Expr} {fe fa fb fo fi:Fe} {g:Ft} {ks:List Nat}
theorem qN {c k:Nat} {f:Addr} {fd:FuncData} {ps:List Str} {m:Str} {apos pos':Pos} {gg:List D→Mm→Option (D×Mm)} {body:List Stmt} {fs:bR} {pl0:Sem Bool} (hx:PassesOwn (model X.prog X.w) X.A X.env X.xe) (xw:XW W X) (ho:PE X o (tE W fo)) (hc:Cls W.K (W.cA c)) (hm:Meth W.K (W.cA c) m f)
  (F:GFn1 X.prog X.w X.K X.mg X.base k f fd ps (jM W ps.length gg)) (hn:ps.length=1) (hr:Room (k + 1) X.A) (hb:Binds X.K fd ps []) (hg:PG X tg (tT W ks g)) (hB:PSs X body (tS W fs))
  (ht:eval (.Call (.Attribute o m apos) [] [] pos') X.env=(do
   let ov ← eval o X.env
   standAt apos.atName
   let (f,first) ← holding [ov] (getMethod ov m pl0)
   callWith pos' f first (backTo pos' (starEach [] X.env)) (backToKw pos' (keywordEach [] X.env)))):
  PS X (.For tg (.Call (.Attribute o m apos) [] [] pos') body [] pos) (tS W fun env h=>match fo env h with
  | some (x,h1)=>(match aO h1 x with
   | some (c',fs')=>bif Nat.beq c c'&&(aY fs' m).isNone&&aD x then (match gg [x] .nil with
    | some (.non,_)=>some (.nx,env,h1)
    | some (.tup [v],_)=>bif aD v then (match g v env h1 with
     | some (env2,h2)=>(match fs env2 h2 with
      | some (.rt d,env3,h3)=>some (.rt d,env3,h3)
      | some (.bk,env3,h3)=>some (.nx,env3,h3)
      | _=>none)
     | none=>none) else none
    | _=>none) else none
   | none=>none)
  | none=>none):=by
 have hc':Cls X.K (W.cA c):=by rw[xw.K];exact hc
 have hm':Meth X.K (W.cA c) m f:=by rw[xw.K];exact hm
 refine (l6 hx xw.calm (ij ho hc' hm' F (hr.mono (Nat.le_succ _)) hb ht) hg hB hr (fun x=>rfl)).sub fun N σ H hw=>?_
 obtain⟨env,S,ρ,h,r,re,R,hf,wq⟩:=hw
 try dsimp only at hf
 split at hf
 rotate_left
 ·cases hf
 rename_i x h1 ea
 split at hf
 rotate_left
 ·cases hf
 rename_i c' gs ei
 obtain⟨hcc,hf2⟩:=aa hf
 clear hf
 simp only[Bool.and_eq_true]at hcc
 obtain⟨⟨hc1,hc2⟩,hpu⟩:=hcc
 have hc1:=Nat.eq_of_beq_eq_true hc1
 subst hc1
 refine⟨env,S,ρ,h,x,h1,re,R,ea,fun S1 ρ1 H1 v1 g1 R1 r1=>?_⟩
 obtain⟨a,dx,gs',rfl,e1,rf⟩:=fB ei R1 r1
 have hl:gs'.lookup m=none:=by
  rcases dD (f:=m) rf with ⟨_,q⟩ | ⟨d0,v0,q,_⟩
  ·exact q
  ·rw[q]at hc2;cases hc2
 have rp:RVs W H1 S1 cQ [x] [L2.V.ref a]:=.cons (r1.pure (fun _ z=>z) hpu) .nil
 refine⟨a,dx,gs',rfl,e1,hl,hn.symm,?_⟩
 split at hf2
 ·rename_i hh eg
  cases hf2
  refine⟨S1,cQ,.nil,[x],_,hh,rp,jK R1,eg,.inl ⟨rfl,fun S2 ρ2 H2 g2 R2=>?_⟩⟩
  obtain⟨g3,R3⟩:=apart (T:=S2) R1 g2 R2 (fun _ z=>z) fun _ z=>.inl z
  exact wq.nx (g1.trans g3) R3 (re.go (g1.trans g3) R)
 ·rename_i v hh eg
  obtain⟨hpv,hf3⟩:=aa hf2
  refine⟨S1,cQ,.nil,[x],_,hh,rp,jK R1,eg,.inr ⟨v,rfl,fun S2 ρ2 H2 u g2 R2 ru=>?_⟩⟩
  obtain⟨g3,R3⟩:=apart (T:=S2) R1 g2 R2 (fun _ z=>z) fun _ z=>.inl z
  have g13:=g1.trans g3
  split at hf3
  rotate_left
  ·cases hf3
  rename_i env2 h2 ag
  refine⟨env,S2,ρ1,h1,v,env2,h2,re.go g13 R,R3,ru.pure (fun _ z=>z) hpv,ag,fun S3 ρ3 H3 σ3 g4 R4 re4 _=>?_⟩
  have g14:=g13.trans g4
  split at hf3
  ·rename_i d env3 h3 eb
   cases hf3
   exact⟨env2,S3,ρ3,h2,_,re4,R4,eb,fun S5 ρ5 H5 g5 R5 w rw'=>wq S5 ρ5 H5 (g14.trans g5) R5 w rw'⟩
  ·rename_i env3 h3 eb
   cases hf3
   exact⟨env2,S3,ρ3,h2,_,re4,R4,eb,fun S5 ρ5 H5 g5 R5 σ5 re5=>wq.nx (g14.trans g5) R5 re5⟩
  ·cases hf3
 ·cases hf2
theorem G1.sub {st:Stmt} {t t':TS} (p:G1 X st t) (q:∀ N σ H,t' N σ H→t N σ H):G1 X st t':=⟨fun A R pins s₀ c fs K J gd lv s σ H D g k I ht=>p.run A R pins s₀ c fs K J gd lv s σ H D g k I (q D σ H ht)⟩
theorem G1s.sub {st:List Stmt} {t t':TS} (p:G1s X st t) (q:∀ N σ H,t' N σ H→t N σ H):G1s X st t':=⟨fun A R pins s₀ c fs K J gd lv s σ H D g k I ht=>p.run A R pins s₀ c fs K J gd lv s σ H D g k I (q D σ H ht)⟩
theorem wh {st:Stmt} {f:bR} (hp:PS X st (tS W f)):G1 X st (tS W fun env h=>match f env h with
  | some (.nx,env1,h1)=>some (.nx,env1,h1)
  | some (.bk,env1,h1)=>some (.bk,env1,h1)
  | some (.ct,env1,h1)=>some (.ct,env1,h1)
  | _=>none):=by
 refine (wC hp).sub fun N σ H hw=>?_
 obtain⟨env,S,ρ,h,r,re,R,hf,wq⟩:=hw
 try dsimp only at hf
 split at hf
 ·rename_i env1 h1 e1
  cases hf
  exact⟨env,S,ρ,h,_,re,R,e1,fun S1 ρ1 H1 g1 R1 σ1 re1=>wq S1 ρ1 H1 g1 R1 σ1 re1⟩
 ·rename_i env1 h1 e1
  cases hf
  exact⟨env,S,ρ,h,_,re,R,e1,fun S1 ρ1 H1 g1 R1 σ1 re1=>wq S1 ρ1 H1 g1 R1 σ1 re1⟩
 ·rename_i env1 h1 e1
  cases hf
  exact⟨env,S,ρ,h,_,re,R,e1,fun S1 ρ1 H1 g1 R1 σ1 re1=>wq S1 ρ1 H1 g1 R1 σ1 re1⟩
 ·cases hf
theorem ue {yp:Pos} (he:PE X e (tE W fe)) (hco:X.env.scope.isCoroutine=false):G1 X (.Expr (.Yield (some e) yp) pos) (tS W fun env h=>match fe env h with | some (d,h1)=>some (.rt d,env,h1) | none=>none):=by
 refine (oZ he hco).sub fun N σ H hw=>?_
 obtain⟨env,S,ρ,h,r,re,R,hf,wq⟩:=hw
 try dsimp only at hf
 split at hf
 ·rename_i d h1 ea
  cases hf
  exact⟨env,S,ρ,h,d,_,re,R,ea,fun S1 ρ1 H1 v1 g1 R1 r1=>wq S1 ρ1 H1 g1 R1 v1 r1⟩
 ·cases hf
theorem sW {c:Expr} {as bs:List Stmt} {fc:Fc} {fs gs:bR} (hc:PT X c (tC W fc)) (ha:G1s X as (tS W fs)) (hb:G1s X bs (tS W gs)):
  G1 X (.If c as bs pos) (tS W fun env h=>match fc env h with | some (true,h1)=>fs env h1 | some (false,h1)=>gs env h1 | none=>none):=by
 refine (wU hc ha hb).sub fun N σ H hw=>?_
 obtain⟨env,S,ρ,h,r,re,R,hf,wq⟩:=hw
 try dsimp only at hf
 split at hf
 ·rename_i h1 ec
  refine⟨env,S,ρ,h,true,h1,re,R,ec,fun S1 ρ1 H1 g1 R1=>?_⟩
  show ite _ _ _
  rw[if_pos rfl]
  exact⟨env,S1,ρ1,h1,r,re.go g1 R,R1,hf,wq.pre g1⟩
 ·rename_i h1 ec
  refine⟨env,S,ρ,h,false,h1,re,R,ec,fun S1 ρ1 H1 g1 R1=>?_⟩
  show ite _ _ _
  rw[if_neg Bool.false_ne_true]
  exact⟨env,S1,ρ1,h1,r,re.go g1 R,R1,hf,wq.pre g1⟩
 ·cases hf
theorem tV:G1s X [] (tS W fun env h=>some (.nx,env,h)):=by
 refine sP.sub fun N σ H hw=>?_
 obtain⟨env,S,ρ,h,r,re,R,hf,wq⟩:=hw
 cases hf
 exact wq.nx .refl R re
theorem pM {st:Stmt} {rest:List Stmt} {f gs:bR} (h1:G1 X st (tS W f)) (h2:G1s X rest (tS W gs)):G1s X (st :: rest) (tS W fun env h=>match f env h with
  | some (.nx,env1,h1)=>gs env1 h1
  | some (.bk,env1,h1)=>some (.bk,env1,h1)
  | some (.ct,env1,h1)=>some (.ct,env1,h1)
  | some (.rt d,env1,h1)=>some (.rt d,env1,h1)
  | none=>none):=by
 refine (qz h1 h2).sub fun N σ H hw=>?_
 obtain⟨env,S,ρ,h,r,re,R,hf,wq⟩:=hw
 try dsimp only at hf
 split at hf
 ·rename_i env1 h1 e1
  exact⟨env,S,ρ,h,_,re,R,e1,fun S1 ρ1 H1 g1 R1 σ1 re1=>⟨env1,S1,ρ1,h1,r,re1,R1,hf,wq.pre g1⟩⟩
 ·rename_i env1 h1 e1
  cases hf
  exact⟨env,S,ρ,h,_,re,R,e1,fun S1 ρ1 H1 g1 R1 σ1 re1=>wq S1 ρ1 H1 g1 R1 σ1 re1⟩
 ·rename_i env1 h1 e1
  cases hf
  exact⟨env,S,ρ,h,_,re,R,e1,fun S1 ρ1 H1 g1 R1 σ1 re1=>wq S1 ρ1 H1 g1 R1 σ1 re1⟩
 ·rename_i d env1 h1 e1
  cases hf
  exact⟨env,S,ρ,h,_,re,R,e1,fun S1 ρ1 H1 g1 R1 v rv=>wq S1 ρ1 H1 g1 R1 v rv⟩
 ·cases hf
theorem pC {fi:Fi} {fb:bR} {N:Ends} {σ:L2.St} {H:HH} (hw:tS W (fun env h=>match fi env h with
  | some (xs,w,h1)=>aQ (fun h=>stay h w) (bD g fb) xs env h1
  | none=>none) N σ H):L2.tFor (tI W fi) (tT W ks g) (tS W fb) N σ H:=by
 obtain⟨env,S,ρ,h,r,re,R,hf,wq⟩:=hw
 try dsimp only at hf
 split at hf
 rotate_left
 ·cases hf
 rename_i xs w h1 ea
 refine⟨env,S,ρ,h,xs,w,h1,re,R,ea,fun S1 ρ1 H1 J g1 R1 sn=>?_⟩
 let Wit:Nat→L2.St→HH→Prop:=fun i σ2 H2=>∃ env2 S2 ρ2 h2,Go S1 ρ1 h1 H1 S2 ρ2 h2 H2∧RH W H2 S2 ρ2 h2∧RE W H2 S2 ρ2 env2 σ2∧aQ (fun h=>stay h w) (bD g fb) (xs.drop i) env2 h2=some r
 refine⟨fun i m σ2 H2=>m=xs.length - i∧i≤xs.length∧Wit i σ2 H2,⟨xs.length,rfl,Nat.zero_le _,env,S1,ρ1,h1,.refl,R1,re.go g1 R,hf⟩,?_⟩
 rintro i m σ2 H2 ⟨rfl,hi,env2,S2,ρ2,h2,g2,R2,re2,ev⟩
 by_cases hlt:i < xs.length
 ·rw[bM hlt]at ev
  simp only[aQ]at ev
  obtain⟨st,ev⟩:=aa ev
  obtain⟨_,sn2⟩:=sn i S2 ρ2 h2 H2 (g2.w R1) R2 st
  obtain⟨go,yl⟩:=sn2 xs[i] (by simp[hlt])
  refine .inr ⟨go,Wit (i + 1),fun σ' H' w'=>⟨xs.length - (i + 1),by omega,rfl,hlt,w'⟩,fun v H3 y=>?_⟩
  obtain⟨S3,g3,R3,r3⟩:=yl v H3 y
  generalize et:bD g fb xs[i] env2 h2=t at ev
  cases t with
  | none=>cases ev
  | some t=>
   simp only[bD]at et
   split at et
   rotate_left
   ·cases et
   rename_i env4 h4 eg
   refine⟨env2,S3,ρ2,h2,xs[i],env4,h4,re2.go g3 R2,R3,r3,eg,fun S4 ρ4 H4 σ4 g4 R4 re4 _=>?_⟩
   refine⟨env4,S4,ρ4,h4,t,re4,R4,et,fun S5 ρ5 H5 g5 R5=>?_⟩
   have gg:Go S1 ρ1 h1 H1 S5 ρ5 t.2.2 H5:=(g2.trans g3).trans (g4.trans g5)
   obtain⟨fl,env5,h5⟩:=t
   cases fl with
   | nx=>exact fun σ5 re5=>⟨env5,S5,ρ5,h5,gg,R5,re5,ev⟩
   | ct=>exact fun σ5 re5=>⟨env5,S5,ρ5,h5,gg,R5,re5,ev⟩
   | bk=>
    cases ev
    exact fun σ5 re5=>wq.nx (g1.trans gg) R5 re5
   | rt d=>
    cases ev
    exact fun v rv=>wq S5 ρ5 H5 (g1.trans gg) R5 v rv
 ·have e:i=xs.length:=by omega
  subst e
  rw[List.drop_length]at ev
  simp only[aQ]at ev
  obtain⟨st,ev⟩:=aa ev
  cases ev
  obtain⟨stop,_⟩:=sn xs.length S2 ρ2 _ H2 (g2.w R1) R2 st
  exact .inl ⟨stop (Nat.le_refl _),wq.nx (g1.trans g2) R2 re2⟩
theorem tq {iter:Expr} {body:List Stmt} {fi:Fi} {fb:bR} (hx:∀ e s,X.xe e s→False) (xw:XW W X) (hi:PI X tg iter (tI W fi)) (hg:PG X tg (tT W ks g)) (hb:G1s X body (tS W fb)) (pl:aE iter=true):
  G1 X (.For tg iter body [] pos) (tS W fun env h=>match fi env h with
  | some (xs,w,h1)=>aQ (fun h=>stay h w) (bD g fb) xs env h1
  | none=>none):=
 (vZ hx xw.calm hi hg hb (da pl)).sub fun N σ H hw=>pC hw
end
open L2 (upd upd_same upd_ne Cx VK Inv RelV HOk PE PT PA PW TE TT TA thn Room PG PGs TG TGs PI TI Turn FpOk PS PSs Ends TS SP XK V Vals Hp frs FnOk pinsAt of_pinsAt mem_pinsAt Un GI GY GC GK GS GSs GEnds TGn GSP lstObj Apart Slept)
theorem sx {X:Cx} {E:Value→Shared→Prop} {S:Addr} {ip:List (Addr×Obj)} {ys:List V} {σ:L2.St} {H:Hp} {s:Shared} (h:GI X S ip ys σ H s):GI (X.wish E) S ip ys σ H s:=by
 obtain⟨acc,c,r,I⟩:=h
 exact⟨acc,c,r,I.wish E⟩
theorem gR {X:Cx} {E:Value→Shared→Prop} {S:Addr} {ip:List (Addr×Obj)} {ys:List V} {σ:L2.St} {H:Hp} {s:Shared} (h:GI (X.wish E) S ip ys σ H s):GI X S ip ys σ H s:=by
 obtain⟨acc,c,r,I⟩:=h
 have:=I.wish X.xe
 exact⟨acc,c,r,this⟩
theorem t7 {X:Cx} {st:List Stmt} {t:TGn} (h:GSs X.nox st t):GSs X st t:=by
 refine⟨fun A S ip R n ys s₀ c fs K J gd lv s σ H D g hn k hI ht=>?_⟩
 have q:=h.run A S ip R n ys s₀ c fs K J gd lv s σ H D ⟨g.pn,g.ip,g.apart,g.over,g.split,g.guard,g.gd⟩ hn ⟨fun n' ys' s₀' s' f hn' hs=>?_,fun n' s₀' e s' hx=>hx.elim⟩ (sx hI) ht
 ·exact L2.seg_imp (Y:=GY X.nox S) (Y':=GY X S) (fun n s₀ r s hR=>hR) (fun n s₀ v s kap kap' hkk hY=>by
   obtain⟨ys,x,ip,σ,H,q1,q2,q3,q4⟩:=hY
   exact⟨ys,x,ip,σ,H,q1,q2,gR q3,fun s' z=>hkk _ _ (q4 s' z)⟩) n q
 ·refine L2.seg_imp (Y:=GY X S) (Y':=GY X.nox S) (fun n s₀ r s hR=>hR) (fun n s₀ v s kap kap' hkk hY=>by
   obtain⟨ys,x,ip,σ,H,q1,q2,q3,q4⟩:=hY
   exact⟨ys,x,ip,σ,H,q1,q2,sx q3,fun s' z=>hkk _ _ (q4 s' z)⟩) n' (k.ok n' ys' s₀' s' f hn' ?_)
  cases f with
  | next=>obtain⟨σ,H,q,r⟩:=hs;exact⟨σ,H,gR q,r⟩
  | brk=>obtain⟨σ,H,q,r⟩:=hs;exact⟨σ,H,gR q,r⟩
  | cont=>obtain⟨σ,H,q,r⟩:=hs;exact⟨σ,H,gR q,r⟩
  | ret u=>obtain⟨v,σ,H,q,r,w⟩:=hs;exact⟨v,σ,H,gR q,r,w⟩
section
variable {X:Cx} {st:Stmt} {rest:List Stmt} {e:Expr} {pos yp:Pos}
theorem pw {te:TE} (he:PE X e te) (hco:X.env.scope.isCoroutine=false):GS X (.Expr (.Yield (some e) yp) pos) (L2.tGYield te):=by
 refine⟨fun A S ip R n ys s₀ c fs K J gd lv s σ H D g hn k hI ht=>?_⟩
 obtain⟨acc,cc,r,I⟩:=id hI
 exact (L2.gs_yield he hco I.quiet).run A S ip R n ys s₀ c fs K J gd lv s σ H D g hn k hI ht
def zy (tc:TT) (ta tb:TGn):TGn:=fun D ys σ H=>tc σ H fun b H1=>if b=true then ta D ys σ H1 else tb D ys σ H1
theorem wI {test:Expr} {as bs:List Stmt} {tc:TT} {ta tb:TGn} (hc:PT X test tc) (ha:GSs X as ta) (hb:GSs X bs tb):GS X (.If test as bs pos) (zy tc ta tb):=by
 refine⟨fun A S ip R n ys s₀ c fs K J gd lv s σ H D g hn k hI ht=>?_⟩
 obtain⟨acc,cc,r,I⟩:=hI
 rw[exec_If]
 refine seg_at ?_
 show Seg _ _ _ _ _ _ _ ((isTrue test X.env (eval test X.env) >>= fun b=>if b=true then execs as X.env else execs bs X.env).wrap K J gd lv) _ _
 refine seg_bind_wrap ?_
 rw[g.over]
 refine wpAny_mono (hc.run _ s σ H _ I ht) (fun b s' hb'=>?_) fun x s' hx=>k.exc n s₀ x s' hx
 obtain⟨H1,I1,q⟩:=hb'
 cases b with
 | true=>
  rw[if_pos rfl]at q ⊢
  exact ha.run A S ip R n ys s₀ c fs K J gd lv s' σ H1 D g hn k ⟨acc,cc,r,I1⟩ q
 | false=>
  rw[if_neg Bool.false_ne_true]at q ⊢
  exact hb.run A S ip R n ys s₀ c fs K J gd lv s' σ H1 D g hn k ⟨acc,cc,r,I1⟩ q
def wo (wi:TI) (g:TG) (tb:TGn):TGn:=fun D ys σ H=>wi σ H fun J H1=>∃ W:Nat→Nat→List V→L2.St→Hp→Prop,(∃ m,W 0 m ys σ H1)∧∀ i m ys σ H,W i m ys σ H →
 (J.stop i H∧D.nx ys σ H)∨(J.go i H∧∃ N:List V→L2.St→Hp→Prop,(∀ ys' σ' H',N ys' σ' H'→∃ m',m' < m∧W (i + 1) m' ys' σ' H')∧∀ x H',J.yld i H x H'→g x σ H' fun σ2 H2=>tb { D with nx:=N,ct:=N,bk:=D.nx } ys σ2 H2)
theorem pY {S:Addr} {ip ip':List (Addr×Obj)} {A:Around} {c c':Code} {fs:List Frame} {gd:Bool→Bool} {k:Result→Sem PySem.Fin} {l kp:List Value} {p:Pos} (g:GC X S ip A c fs gd) (hip:∀ p∈ip',p.1≠S) (hw:c'.weight=0) (hu:c'.cUnits=0):
  GC X S ip' A c' (.ret k none (gd false) l c p kp :: fs) (fun b=>id (id b)) where
 pn:=g.pn
 ip:=hip
 apart:=g.apart
 over:=(over_loop hw hu).trans g.over
 split:=by
  show (splitAtGen fs).map _=none
  rw[g.split];rfl
 guard:=by
  show (gd false||fs.any Frame.guarded)=false
  rw[g.gd,g.guard];rfl
 gd:=rfl
theorem vP {tg iter:Expr} {body:List Stmt} {wi:TI} {g:TG} {tb:TGn} (hx:∀ e s,X.xe e s→False) (hc:X.calm=true) (hi:PI X tg iter wi) (hg:PG X tg g) (hb:GSs X body tb)
  (hs:∀ x,foldedSetIterable iter X.env x=pure x):GS X (.For tg iter body [] pos) (wo wi g tb):=by
 refine⟨fun A S ip R n ys s₀ c fs K J gd lv s σ H D gc hn k hI ht=>?_⟩
 obtain⟨acc,cc,ra,I⟩:=hI
 have no:∀ {n:Nat} {s₀:Shared} {c':Code} {fs':List Frame} {t:Sem PySem.Fin} (e:Value) (s:Shared),X.xe e s→Seg (model X.prog X.w) A R (GY X S) n s₀ c' t fs' s:=fun e s z=>(hx e s z).elim
 rw[exec_For]
 refine seg_at ?_
 show Seg _ _ _ _ _ _ _ ((eval iter X.env >>= fun v=>foldedSetIterable iter X.env v >>= fun x=>standAt iter.pos >>= fun _=>holding [x] (pyIter x) >>= fun it=>runOwn (.forLoop tg it body [] X.env) X.env).wrap K J gd lv) _ _
 refine seg_bind_wrap ?_
 rw[gc.over]
 refine wpAny_mono (hi.run _ s σ H _ I ht) (fun v s1 h1=>?_) fun e s z=>no e s z
 refine seg_bind_wrap (wpAny_of_eq (hs v) ?_)
 refine seg_at ?_
 show Seg _ _ _ _ _ _ _ ((holding [v] (pyIter v) >>= fun it=>runOwn (.forLoop tg it body [] X.env) X.env).wrap K J gd lv) _ _
 refine seg_bind_wrap (wpAny_holding ?_)
 rw[gc.over]
 refine wpAny_mono h1 (fun itv s2 h2=>?_) fun e s z=>no e s z
 obtain⟨it,fp,tn,Jt,H2,e,I2,T,st2,f2,W,⟨m0,w0⟩,turn⟩:=h2
 subst e
 refine seg_call fun p=>?_
 have fS:∀ b∈fp,b≠S:=fun b hb z=>(f2 b hb).2.2.2.2.2 (S,lstObj acc cc) (List.mem_append_right _ List.mem_cons_self) z.symm
 have stat:∀ {H':Hp} {acc':Array Value} {cc':Nat},(∀ b∈fp,H' b=none)→∀ b∈fp,FpOk X ((S,lstObj acc' cc') :: ip) H' b:=fun {H' acc' cc'} hn b hb=>by
  obtain⟨_,y1,y2,y3,y4,y5⟩:=f2 b hb
  refine⟨hn b hb,y1,y2,y3,y4,fun q hq=>?_⟩
  rcases List.mem_append.mp hq with z | z
  ·exact y5 q (List.mem_append_left _ z)
  ·rcases List.mem_cons.mp z with z | z
   ·rw[z];exact Ne.symm (fS b hb)
   ·exact y5 q (List.mem_append_right _ (List.mem_cons_of_mem _ z))
 have hip:∀ h:Heap,∀ p∈ip++pinsAt fp h,p.1≠S:=fun h p hp=>by
  rcases List.mem_append.mp hp with z | z
  ·exact gc.ip p z
  ·exact fS _ (of_pinsAt z).1
 have gl:=fun (kk:Result→Sem PySem.Fin) (ip':List (Addr×Obj)) (hp:∀ p∈ip',p.1≠S)=>pY (k:=kk) (c':=.forLoop tg (.ref it) body [] X.env) (l:=lv []) (kp:=[]) (p:=p) gc hp rfl rfl
 have loop:∀ (m i n:Nat) (ys:List V) (s₀ s3:Shared) (σ3:L2.St) (H3:Hp),n + ys.length=sizeLine→GI X S ip ys σ3 H3 s3→tn i s3.heap→(∀ b∈fp,H3 b=none)→W i m ys σ3 H3 →
   Seg (model X.prog X.w) A R (GY X S) n s₀ (.forLoop tg (.ref it) body [] X.env) ((model X.prog X.w).den (.forLoop tg (.ref it) body [] X.env))
    (.ret (fun r=>((match r with | .ok f=>(.pure f:Sem Flow) | .error e=>.raise e).onRaise (L2.cameBack X.env)).wrap K J gd lv) none (gd false) (lv []) c p [] :: fs) s3:=by
  intro m
  induction m using Nat.strongRecOn with
  | ind m ih=>
   intro i n ys s₀ s3 σ3 H3 hn3 hI3 st3 fr3 w3
   obtain⟨acc3,cc3,ra3,I3⟩:=hI3
   show Seg _ A R _ _ _ _ ((forTurn tg (.ref it) body [] X.env).onRaise (fun x=>do noteFrame x X.env;theTreesLotGoes x)) _ s3
   unfold forTurn
   rw[Sem.onRaise_eq_wrap]
   refine seg_bind_wrap (wpAny_standAt ?_)
   refine seg_bind_wrap ?_
   rw[(gl _ ip gc.ip).over]
   rcases turn i m ys σ3 H3 w3 with ⟨stop,qn⟩ | ⟨go,N,hN,aL⟩
   ·refine wpAny_onRaise (wpAny_mono (T.done X rfl rfl rfl hc i _ s3 σ3 H3 X.xe I3 (stat fr3) st3 stop) (fun r s4 ⟨hr,I4⟩=>?_) fun e s z=>(hx e s z).elim)
    subst hr
    refine seg_again rfl ?_
    show Seg _ A R _ _ _ _ (.pure (.done .next)) _ _
    exact seg_leaf (.ok .next) (k.ok n ys s₀ s4 .next hn3 ⟨σ3,H3,⟨acc3,cc3,ra3,I4⟩,qn⟩)
   ·refine wpAny_onRaise (wpAny_mono (T.item X rfl rfl rfl hc i _ s3 σ3 H3 X.xe I3 (stat fr3) st3 go) (fun r s4 ⟨u,hr,h4⟩=>?_) fun e s z=>(hx e s z).elim)
    subst hr
    refine seg_bind_wrap ?_
    rw[(gl _ ip gc.ip).over]
    refine wpAny_mono h4 (fun _ s5 ⟨x,H5,I5,r5,y5,st5,fr5⟩=>?_) fun e s z=>no e s z
    have I5':=I5.pinned (stat fr5) (T.obj _ _ st5)
    refine seg_bind_wrap ?_
    rw[(gl _ ip gc.ip).over]
    refine wpAny_mono (hg.run _ s5 σ3 H5 x u _ I5' r5 (aL x H5 y5)) (fun _ s6 ⟨σ6,H6,I6,q6⟩=>?_) fun e s z=>no e s z
    rw[Sem.bind_eq_wrap',Sem.wrap_wrap]
    refine hb.run A S (ip++pinsAt fp s5.heap) _ n ys s₀ _ _ _ _ _ _ s6 σ6 H6 { D with nx:=N,ct:=N,bk:=D.nx } (gl _ _ (hip _)) hn3 ⟨fun n' ys' s₀' s7 f hn' hs=>?_,fun n' s₀' e s z=>no e s z⟩ ⟨acc3,cc3,ra3,I6⟩ q6
    have again:∀ {σ7:L2.St} {H7:Hp},GI X S (ip++pinsAt fp s5.heap) ys' σ7 H7 s7→N ys' σ7 H7→∃ m',m' < m∧GI X S ip ys' σ7 H7 s7∧tn (i + 1) s7.heap∧(∀ b∈fp,H7 b=none)∧W (i + 1) m' ys' σ7 H7:=fun {σ7 H7} hI7 n7=>by
     obtain⟨m',hm,w7⟩:=hN ys' σ7 H7 n7
     obtain⟨acc7,cc7,ra7,I7⟩:=hI7
     have pin7:∀ b∈fp,∀ o,s5.heap.get? b=some o→s7.heap.get? b=some o∧H7 b=none:=fun b hb o e=>
      let z:=I7.pin (b,o) (List.mem_append_right _ (List.mem_cons_of_mem _ (List.mem_append_right _ (mem_pinsAt hb e))))
      ⟨z.1,z.2.1⟩
     refine⟨m',hm,⟨acc7,cc7,ra7,Inv.unpinned (pins:=(S,lstObj acc7 cc7) :: ip) (pl:=pinsAt fp s5.heap) (by rw[List.cons_append];exact I7)⟩,T.keep _ _ _ st5 fun b hb o e=>(pin7 b hb o e).1,fun b hb=>?_,w7⟩
     obtain⟨o,e,d⟩:=T.obj _ _ st5 b hb
     exact (pin7 b hb o e).2
    have back:∀ {σ7:L2.St} {H7:Hp},GI X S (ip++pinsAt fp s5.heap) ys' σ7 H7 s7→GI X S ip ys' σ7 H7 s7:=fun {σ7 H7} hI7=>by
     obtain⟨acc7,cc7,ra7,I7⟩:=hI7
     exact⟨acc7,cc7,ra7,Inv.unpinned (pins:=(S,lstObj acc7 cc7) :: ip) (pl:=pinsAt fp s5.heap) (by rw[List.cons_append];exact I7)⟩
    cases f with
    | next=>
     obtain⟨σ7,H7,I7,n7⟩:=hs
     obtain⟨m',hm,I8,t8,f8,w8⟩:=again I7 n7
     exact seg_again rfl (ih m' hm (i + 1) n' ys' s₀' s7 σ7 H7 hn' I8 t8 f8 w8)
    | cont=>
     obtain⟨σ7,H7,I7,n7⟩:=hs
     obtain⟨m',hm,I8,t8,f8,w8⟩:=again I7 n7
     exact seg_again rfl (ih m' hm (i + 1) n' ys' s₀' s7 σ7 H7 hn' I8 t8 f8 w8)
    | brk=>
     obtain⟨σ7,H7,I7,q7⟩:=hs
     exact seg_leaf (.ok .next) (k.ok n' ys' s₀' s7 .next hn' ⟨σ7,H7,back I7,q7⟩)
    | ret v=>
     obtain⟨x7,σ7,H7,I7,r7,q7⟩:=hs
     exact seg_leaf (.ok (.ret v)) (k.ok n' ys' s₀' s7 (.ret v) hn' ⟨x7,σ7,H7,back I7,r7,q7⟩)
 exact loop m0 0 n ys s₀ s2 σ H2 hn ⟨acc,cc,ra,I2⟩ st2 (fun b hb=>(f2 b hb).1) w0
end
open L2 (upd upd_same upd_ne Cx VK Inv RelV HOk PE PT PA PW TE TT TA thn Room PG PGs TG TGs PI TI Turn FpOk Loc PS PSs Ends TS SP XK V Vals Hp frs FnOk Un Gl GScope Env0 Mod start Binds Cls Meth GI GY GC GK GS GSs GEnds TGn GSP lstObj GFn SpG NoStop Passes)
abbrev i6:=Env→Mm→Option (Fl×List D×Env×Mm)
def WA (W:Wd) (S:Addr→Prop) (ρ:aq) (H:HH) (N:GEnds) (fl:Fl) (env:Env) (zs:List V):Prop:=
 match fl with
 | .nx=>∀ σ,RE W H S ρ env σ→N.nx zs σ H
 | .bk=>∀ σ,RE W H S ρ env σ→N.bk zs σ H
 | .ct=>∀ σ,RE W H S ρ env σ→N.ct zs σ H
 | .rt _=>True
def tA (W:Wd) (f:i6):TGn:=fun N ys σ H=>∃ env S ρ h fl os env' h',RE W H S ρ env σ∧RH W H S ρ h∧f env h=some (fl,os,env',h')∧ys.length + os.length≤sizeLine ∧
 ∀ S' ρ' H' us,Go S ρ h H S' ρ' h' H'→RH W H' S' ρ' h'→RVs W H' S' ρ' os us→WA W S' ρ' H' N fl env' (ys++us)
theorem GS.sub {X:Cx} {st:Stmt} {t t':TGn} (p:GS X st t) (q:∀ N ys σ H,t' N ys σ H→t N ys σ H):GS X st t':=⟨fun A S ip R n ys s₀ c fs K J gd lv s σ H D g hn k I ht=>p.run A S ip R n ys s₀ c fs K J gd lv s σ H D g hn k I (q D ys σ H ht)⟩
theorem GSs.sub {X:Cx} {st:List Stmt} {t t':TGn} (p:GSs X st t) (q:∀ N ys σ H,t' N ys σ H→t N ys σ H):GSs X st t':=⟨fun A S ip R n ys s₀ c fs K J gd lv s σ H D g hn k I ht=>p.run A S ip R n ys s₀ c fs K J gd lv s σ H D g hn k I (q D ys σ H ht)⟩
abbrev aS (f:bR):i6:=fun env h=>match f env h with
 | some (.nx,env1,h1)=>some (.nx,[],env1,h1)
 | some (.bk,env1,h1)=>some (.bk,[],env1,h1)
 | some (.ct,env1,h1)=>some (.ct,[],env1,h1)
 | _=>none
abbrev rG (f g:i6):i6:=fun env h=>match f env h with
 | some (.nx,o,env1,h1)=>(match g env1 h1 with
  | some (fl,os,env2,h2)=>some (fl,o++os,env2,h2)
  | none=>none)
 | some (.bk,o,env1,h1)=>some (.bk,o,env1,h1)
 | some (.ct,o,env1,h1)=>some (.ct,o,env1,h1)
 | _=>none
section
variable {W:Wd} {X:Cx} {H H':HH} {S S':Addr→Prop} {ρ ρ':aq} {h h':Mm} {pos p:Pos} {tg e a b o i:Expr} {fe fa fb fo:Fe} {g:Ft} {ks:List Nat}
theorem wX {st:Stmt} {f:bR} (hp:PS X st (tS W f)):GS X st (tA W (aS f)):=by
 refine GS.sub (L2.gs_ps hp) fun N ys σ H hw=>?_
 obtain⟨env,S,ρ,h,fl,os,env',h',re,R,hf,hz,wq⟩:=hw
 show tS W f (N.at ys) σ H
 unfold aS at hf
 try dsimp only at hf
 split at hf
 ·rename_i env1 h1 e1
  cases hf
  refine⟨env,S,ρ,h,_,re,R,e1,fun S1 ρ1 H1 g1 R1 σ1 re1=>?_⟩
  have:=wq S1 ρ1 H1 [] g1 R1 .nil σ1 re1
  rw[List.append_nil]at this
  exact this
 ·rename_i env1 h1 e1
  cases hf
  refine⟨env,S,ρ,h,_,re,R,e1,fun S1 ρ1 H1 g1 R1 σ1 re1=>?_⟩
  have:=wq S1 ρ1 H1 [] g1 R1 .nil σ1 re1
  rw[List.append_nil]at this
  exact this
 ·rename_i env1 h1 e1
  cases hf
  refine⟨env,S,ρ,h,_,re,R,e1,fun S1 ρ1 H1 g1 R1 σ1 re1=>?_⟩
  have:=wq S1 ρ1 H1 [] g1 R1 .nil σ1 re1
  rw[List.append_nil]at this
  exact this
 ·cases hf
theorem tw {yp:Pos} (he:PE X e (tE W fe)) (hco:X.env.scope.isCoroutine=false):GS X (.Expr (.Yield (some e) yp) pos) (tA W fun env h=>match fe env h with | some (d,h1)=>some (.nx,[d],env,h1) | none=>none):=by
 refine GS.sub (pw he hco) fun N ys σ H hw=>?_
 obtain⟨env,S,ρ,h,fl,os,env',h',re,R,hf,hz,wq⟩:=hw
 try dsimp only at hf
 split at hf
 ·rename_i d h1 ea
  cases hf
  rw[List.length_singleton]at hz
  exact⟨by omega,env,S,ρ,h,d,_,re,R,ea,fun S1 ρ1 H1 v1 g1 R1 r1=>wq S1 ρ1 H1 [v1] g1 R1 (.cons r1 .nil) σ (re.go g1 R)⟩
 ·cases hf
theorem uz {c:Expr} {as bs:List Stmt} {fc:Fc} {fs gs:i6} (hc:PT X c (tC W fc)) (ha:GSs X as (tA W fs)) (hb:GSs X bs (tA W gs)):
  GS X (.If c as bs pos) (tA W fun env h=>match fc env h with | some (true,h1)=>fs env h1 | some (false,h1)=>gs env h1 | none=>none):=by
 refine GS.sub (wI hc ha hb) fun N ys σ H hw=>?_
 obtain⟨env,S,ρ,h,fl,os,env',h',re,R,hf,hz,wq⟩:=hw
 try dsimp only at hf
 split at hf
 ·rename_i h1 ec
  refine⟨env,S,ρ,h,true,h1,re,R,ec,fun S1 ρ1 H1 g1 R1=>?_⟩
  show ite _ _ _
  rw[if_pos rfl]
  exact⟨env,S1,ρ1,h1,fl,os,env',h',re.go g1 R,R1,hf,hz,fun S2 ρ2 H2 us g2=>wq S2 ρ2 H2 us (g1.trans g2)⟩
 ·rename_i h1 ec
  refine⟨env,S,ρ,h,false,h1,re,R,ec,fun S1 ρ1 H1 g1 R1=>?_⟩
  show ite _ _ _
  rw[if_neg Bool.false_ne_true]
  exact⟨env,S1,ρ1,h1,fl,os,env',h',re.go g1 R,R1,hf,hz,fun S2 ρ2 H2 us g2=>wq S2 ρ2 H2 us (g1.trans g2)⟩
 ·cases hf
theorem uu:GSs X [] (tA W fun env h=>some (.nx,[],env,h)):=by
 refine GSs.sub L2.gss_nil fun N ys σ H hw=>?_
 obtain⟨env,S,ρ,h,fl,os,env',h',re,R,hf,hz,wq⟩:=hw
 cases hf
 have:=wq S ρ H [] .refl R .nil σ re
 rw[List.append_nil]at this
 exact this
theorem qo {st:Stmt} {rest:List Stmt} {f g:i6} (h1:GS X st (tA W f)) (h2:GSs X rest (tA W g)):GSs X (st :: rest) (tA W (rG f g)):=by
 refine GSs.sub (L2.gss_cons h1 h2) fun N ys σ H hw=>?_
 obtain⟨env,S,ρ,h,fl,os,env',h',re,R,hf,hz,wq⟩:=hw
 unfold rG at hf
 try dsimp only at hf
 split at hf
 ·rename_i o env1 h1 e1
  split at hf
  rotate_left
  ·cases hf
  rename_i zR os2 env2 h2 e2
  cases hf
  rw[List.length_append]at hz
  refine⟨env,S,ρ,h,_,o,env1,h1,re,R,e1,by omega,fun S1 ρ1 H1 us g1 R1 ru σ1 re1=>?_⟩
  refine⟨env1,S1,ρ1,h1,_,os2,_,_,re1,R1,e2,by rw[List.length_append,← ru.len];omega,fun S2 ρ2 H2 us2 g2 R2 ru2=>?_⟩
  rw[List.append_assoc]
  exact wq S2 ρ2 H2 (us++us2) (g1.trans g2) R2 ((ru.go g2 R1).append ru2)
 ·rename_i o env1 h1 e1
  cases hf
  exact⟨env,S,ρ,h,_,_,_,_,re,R,e1,hz,fun S1 ρ1 H1 us g1 R1 ru=>wq S1 ρ1 H1 us g1 R1 ru⟩
 ·rename_i o env1 h1 e1
  cases hf
  exact⟨env,S,ρ,h,_,_,_,_,re,R,e1,hz,fun S1 ρ1 H1 us g1 R1 ru=>wq S1 ρ1 H1 us g1 R1 ru⟩
 ·cases hf
abbrev js (g:Ft) (f:i6):D→Env→Mm→Option (Fl×List D×Env×Mm):=fun x env h=>match g x env h with
 | some (env2,h2)=>f env2 h2
 | none=>none
theorem tj {iter:Expr} {body:List Stmt} {fi:Fi} {f:i6} (hx:∀ e s,X.xe e s→False) (xw:XW W X) (hi:PI X tg iter (tI W fi)) (hg:PG X tg (tT W ks g)) (hb:GSs X body (tA W f)) (pl:aE iter=true):
  GS X (.For tg iter body [] pos) (tA W fun env h=>match fi env h with
  | some (xs,w,h1)=>gC (fun h=>stay h w) (js g f) xs env h1
  | none=>none):=by
 refine GS.sub (vP hx xw.calm hi hg hb (da pl)) fun N ys σ H hw=>?_
 obtain⟨env,S,ρ,h,fl,os,env',h',re,R,hf,hz,wq⟩:=hw
 try dsimp only at hf
 split at hf
 rotate_left
 ·cases hf
 rename_i xs w h1 ea
 refine⟨env,S,ρ,h,xs,w,h1,re,R,ea,fun S1 ρ1 H1 J g1 R1 sn=>?_⟩
 let Wit:Nat→List V→L2.St→HH→Prop:=fun i zs σ2 H2=>∃ env2 S2 ρ2 h2 o us os2,Go S1 ρ1 h1 H1 S2 ρ2 h2 H2∧RH W H2 S2 ρ2 h2∧RE W H2 S2 ρ2 env2 σ2∧zs=ys++us∧RVs W H2 S2 ρ2 o us ∧
  gC (fun h=>stay h w) (js g f) (xs.drop i) env2 h2=some (fl,os2,env',h')∧os=o++os2
 refine⟨fun i m zs σ2 H2=>m=xs.length - i∧i≤xs.length∧Wit i zs σ2 H2,⟨xs.length,rfl,Nat.zero_le _,env,S1,ρ1,h1,[],[],os,.refl,R1,re.go g1 R,by rw[List.append_nil],.nil,hf,rfl⟩,?_⟩
 rintro i m zs σ2 H2 ⟨rfl,hi,env2,S2,ρ2,h2,o,us,os2,g2,R2,re2,rfl,ru,ev,ho⟩
 subst ho
 rw[List.length_append]at hz
 have hus:us.length=o.length:=ru.len.symm
 by_cases hlt:i < xs.length
 ·rw[bM hlt]at ev
  simp only[gC]at ev
  obtain⟨st,ev⟩:=aa ev
  obtain⟨_,sn2⟩:=sn i S2 ρ2 h2 H2 (g2.w R1) R2 st
  obtain⟨go,yl⟩:=sn2 xs[i] (by simp[hlt])
  refine .inr ⟨go,Wit (i + 1),fun zs' σ' H' w'=>⟨xs.length - (i + 1),by omega,rfl,hlt,w'⟩,fun v H3 y=>?_⟩
  obtain⟨S3,g3,R3,r3⟩:=yl v H3 y
  generalize et:js g f xs[i] env2 h2=t at ev
  cases t with
  | none=>cases ev
  | some t=>
   simp only[js]at et
   split at et
   rotate_left
   ·cases et
   rename_i env4 h4 eg
   refine⟨env2,S3,ρ2,h2,xs[i],env4,h4,re2.go g3 R2,R3,r3,eg,fun S4 ρ4 H4 σ4 g4 R4 re4 _=>?_⟩
   obtain⟨qT,o5,env5,h5⟩:=t
   have hz5:(ys++us).length + o5.length≤sizeLine:=by
    rw[List.length_append]
    cases qT with
    | nx=>
     dsimp only at ev
     split at ev
     ·cases ev;rw[List.length_append]at hz;omega
     ·cases ev
    | ct=>
     dsimp only at ev
     split at ev
     ·cases ev;rw[List.length_append]at hz;omega
     ·cases ev
    | bk=>cases ev;omega
    | rt d=>cases ev
   refine⟨env4,S4,ρ4,h4,qT,o5,env5,h5,re4,R4,et,hz5,fun S5 ρ5 H5 us5 g5 R5 ru5=>?_⟩
   have gg:Go S1 ρ1 h1 H1 S5 ρ5 h5 H5:=(g2.trans g3).trans (g4.trans g5)
   have ru':RVs W H5 S5 ρ5 (o++o5) (us++us5):=(((ru.go g3 R2).go g4 R3).go g5 R4).append ru5
   cases qT with
   | nx=>
    dsimp only at ev
    split at ev
    rotate_left
    ·cases ev
    rename_i xa os6 env6 h6 e6
    cases ev
    exact fun σ5 re5=>⟨env5,S5,ρ5,h5,o++o5,us++us5,os6,gg,R5,re5,by rw[List.append_assoc],ru',e6,by rw[List.append_assoc]⟩
   | ct=>
    dsimp only at ev
    split at ev
    rotate_left
    ·cases ev
    rename_i xa os6 env6 h6 e6
    cases ev
    exact fun σ5 re5=>⟨env5,S5,ρ5,h5,o++o5,us++us5,os6,gg,R5,re5,by rw[List.append_assoc],ru',e6,by rw[List.append_assoc]⟩
   | bk=>
    cases ev
    intro σ5 re5
    have:=wq S5 ρ5 H5 (us++us5) (g1.trans gg) R5 ru' σ5 re5
    rw[← List.append_assoc]at this
    exact this
   | rt d=>cases ev
 ·have e:i=xs.length:=by omega
  subst e
  rw[List.drop_length]at ev
  simp only[gC]at ev
  obtain⟨st,ev⟩:=aa ev
  cases ev
  obtain⟨stop,_⟩:=sn xs.length S2 ρ2 _ H2 (g2.w R1) R2 st
  rw[List.append_nil]at wq
  exact .inl ⟨stop (Nat.le_refl _),wq S2 ρ2 H2 us (g1.trans g2) R2 ru σ2 re2⟩
def nY (W:Wd) (n:Nat) (g:List D→Mm→Option (D×Mm)):SpG:=fun vs H Q E=>vs.length=n∧∃ S ρ h ds os h',RVs W H S ρ ds vs∧RH W H S ρ h∧g ds h=some (.tup os,h')∧os.length≤sizeLine ∧
 ∀ S' ρ' H' us,Go S ρ h H S' ρ' h' H'→RH W H' S' ρ' h'→RVs W H' S' ρ' os us→Q us H'
theorem pZ {f:Addr} {ps:List Str} {fd:FuncData} {k:Nat} {base:Heap} {gg:List D→Mm→Option (D×Mm)} (hg:∀ vs h,gg vs h=none):GFn W.P W.w W.K W.mg base k f fd ps (nY W ps.length gg):=
 ⟨fun vs H Q E h=>h.1,fun A outer s H args us vs Q E hr he hb hv hs=>by
  obtain⟨_,S,ρ,h,ds,d,h',_,_,e,_⟩:=hs
  rw[hg]at e
  cases e⟩
end
open PySem PySem.Spec PyProof.Rows
open L2 (upd upd_same upd_ne Cx VK Inv RelV HOk ObjOk PE PT PA PO CX0 SqL SqT Gl EP)
section
variable {prog:Program} {w:World} {A:Around} {E:Value→Shared→Prop} {s:Shared}
theorem mU (n:Nat):Builtin.Slice.slicePlaces ((n:Int) - 1) (-1) (-1)=n:=by
 unfold Builtin.Slice.slicePlaces
 rw[if_neg (by decide)]
 by_cases h:n=0
 ·subst h;rfl
 ·rw[if_pos (by omega)]
  have e:(-(-1:Int))=1:=rfl
  rw[e,Int.ediv_one]
  omega
theorem k8 {sl:Addr} {vs:Value} {n:Nat} {Q:Int×Int×Nat→Shared→Prop} (hs:s.heap.IsSliceOf sl .none .none vs) (ps:IsPart vs (some (-1))) (h:Q ((n:Int) - 1,-1,n) s):
  wpAny (model prog w) A (Builtin.Slice.sliceApplied (.ref sl) (pure (n:Int))) Q E s:=by
 obtain⟨o,ho,hc,hd⟩:=id hs
 unfold Builtin.Slice.sliceApplied
 unfold Builtin.Slice.sliceFields
 refine wpAny_bind (wpAny_bind (wpAny_field ho hd (x:=.none) rfl (wpAny_bind (wpAny_field ho hd (x:=.none) rfl (wpAny_bind (wpAny_field ho hd (x:=vs) rfl (wpAny_pure ?_)))))))
 refine wpAny_bind (HT.slicePart_ ps ?_)
 show wpAny _ _ (if ((-1:Int) == 0)=true then _ else _) _ _ s
 rw[if_neg (by decide)]
 refine wpAny_bind (HT.slicePart_ .none (wpAny_bind (HT.slicePart_ .none (wpAny_bind (wpAny_pure ?_)))))
 have e:Builtin.Slice.sliceAdjust none none (-1) (n:Int)=((n:Int) - 1,-1):=rfl
 show wpAny _ _ (match Builtin.Slice.sliceAdjust none none (-1) (n:Int) with | (lo,hi)=>pure (lo,(-1:Int),Builtin.Slice.slicePlaces lo hi (-1))) _ _ s
 rw[e]
 show wpAny _ _ (pure ((n:Int) - 1,(-1:Int),Builtin.Slice.slicePlaces ((n:Int) - 1) (-1) (-1))) _ _ s
 rw[mU]
 exact wpAny_pure h
theorem pA (xs:Array Value):((List.range xs.size).filterMap fun (k:Nat)=>xs[((xs.size:Int) - 1 + (k:Int) * (-1)).toNat]?)=xs.toList.reverse:=by
 have e:(fun (k:Nat)=>xs[((xs.size:Int) - 1 + (k:Int) * (-1)).toNat]?)=(fun i=>xs[i]?) ∘ fun k=>xs.size - 1 - k:=by
  funext k
  have:((xs.size:Int) - 1 + (k:Int) * (-1)).toNat=xs.size - 1 - k:=by omega
  show _=xs[xs.size - 1 - k]?
  rw[this]
 rw[e,← List.filterMap_map,PySem.W.krv_range,List.filterMap_reverse,PySem.W.krv_all]
theorem nH {t sl:Addr} {items:Array Value} {vs:Value} {Q:Value→Shared→Prop} (ht:IsTup s.heap t items) (hs:s.heap.IsSliceOf sl .none .none vs) (ps:IsPart vs (some (-1)))
  (h:Q (.ref s.heap.objs.size) { s with heap:=s.heap.push { cls:=.type "tuple",data:=.seq items.toList.reverse.toArray } }) (hsz:items.size≤sizeLine):wpAny (model prog w) A (getItem (.ref t) (.ref sl)) Q E s:=by
 have ok:sizeOk (.seq items.toList.reverse.toArray):=by
  show items.toList.reverse.toArray.size≤sizeLine
  rw[List.size_toArray,List.length_reverse,Array.length_toList]
  exact hsz
 obtain⟨o,ho,hc,hd⟩:=id hs
 have hT:s.TypeIs (.ref sl) "slice":=⟨o,ho,hc⟩
 unfold getItem
 try with_reducible refine wpAny_holding ?_
 first | refine wpAny_bind (wpAny_pure ?_) | skip
 refine wpAny_bind (wpAny_sequenceKey ht.typeIs (by decide) ?_)
 refine wpAny_bind (wpAny_callSpecial?_slot (name:=Str.ofString "__getitem__") ht.typeIs PyProof.Rows.slot_tuple_getitem (wpAny_call_entry PyProof.Rows.slot_tuple_getitem ht.typeIs entry_tuple_getitem ?_ (args_tuple_getitem _ _)))
 show wpAny _ _ (Builtin.Tuple.tupleItemsOf (.ref t) >>= _) _ _ s
 refine wpAny_bind (PyProof.Rows.tupleItemsOf_ ht ?_)
 refine wpAny_bind (wpAny_typeOf hT ?_)
 rw[if_pos (by decide)]
 refine wpAny_bind (k8 hs ps ?_)
 have no:¬ ((((items.size:Int) - 1) == 0&&(-1:Int) == 1&&items.size == items.size)=true):=by
  intro q
  rw[Bool.and_eq_true,Bool.and_eq_true]at q
  exact absurd q.1.2 (by decide)
 show wpAny _ _ (if (((items.size:Int) - 1) == 0&&(-1:Int) == 1&&items.size == items.size)=true then _ else _) _ _ s
 rw[if_neg no,pA]
 first
  | exact wpAny_bind (m:=Builtin.Tuple.tupleExact _) (wpAny_newObj_type (wpAny_pure ⟨_,rfl,wpAny_pure h⟩) ok)
  | exact wpAny_bind (m:=Builtin.Tuple.tupleExact _) (wpAny_newObj_type (wpAny_bind (wpAny_pure (wpAny_pure ⟨_,rfl,wpAny_pure h⟩))) ok)
  | exact wpAny_bind (wpAny_bind (m:=Builtin.Tuple.tupleExact _) (wpAny_newObj_type (wpAny_pure (wpAny_pure ⟨_,rfl,wpAny_pure h⟩)) ok))
  | exact wpAny_bind (wpAny_bind (m:=Builtin.Tuple.tupleExact _) (wpAny_newObj_type (wpAny_pure ⟨_,rfl,wpAny_pure h⟩) ok))
end
section
variable {W:Wd} {X:Cx} {p pos:Pos} {e:Expr} {fo:Fe}
theorem RVs.rev {H:HH} {S:Addr→Prop} {ρ:aq}:∀ {ds:List D} {vs:List L2.V},RVs W H S ρ ds vs→RVs W H S ρ ds.reverse vs.reverse
 | _,_,.nil=>.nil
 | _,_,.cons a r=>by
  rw[List.reverse_cons,List.reverse_cons]
  exact (RVs.rev r).append (.cons a .nil)
theorem ug {z:Bool} {k:Nat} {p1 p2 p3:Pos} (xw:XW W X) (he:PE X e (tE W fo)):
  PE X (.Subscript e (.Slice none none (some (.UnaryOp .USub (.Constant (.int 1) k p1) p2)) p3) pos) (tE W fun env h=>match fo env h with | some (x,h1)=>qr z x h1 | none=>none):=by
 refine⟨fun pins s σ H Q I hw=>?_⟩
 obtain⟨env,S,ρ,h,d,h',re,R,hf,wq⟩:=hw
 try dsimp only at hf
 split at hf
 rotate_left
 ·cases hf
 rename_i x h1 ea
 refine PyProof.Rows.Subscript_ (L2.thn (he.run pins s σ H (fun v H1=>∃ S1 ρ1,Go S ρ h H S1 ρ1 h1 H1∧RH W H1 S1 ρ1 h1∧RV W H1 S1 ρ1 x v) I ⟨env,S,ρ,h,x,h1,re,R,ea,fun S1 ρ1 H1 v g1 R1 r1=>⟨S1,ρ1,g1,R1,r1⟩⟩) fun u s1 ⟨v,H1,I1,ru,S1,ρ1,g1,R1,rv⟩=>?_)
 have wq1:=aN.pre g1 wq
 have st:PO X (some (.UnaryOp .USub (.Constant (.int 1) k p1) p2)) (L2.tPart (L2.tUn (L2.rU fun i=>.int (-i)) (L2.tC (.int 1)))):=L2.po_some (L2.pe_un L2.un_neg L2.pe_int)
 refine wpAny_Slice (L2.thn (L2.po_none.run pins s1 σ H1 (fun o H2=>o=none∧H2=H1) I1 ⟨rfl,rfl⟩) fun vl s2 ⟨l,H2,I2,pl,el,eH2⟩=>?_)
 subst el eH2
 refine L2.thn (L2.po_none.run pins s2 σ H2 (fun o H3=>o=none∧H3=H2) I2 ⟨rfl,rfl⟩) fun vu s3 ⟨u2,H3,I3,pu,eu,eH3⟩=>?_
 subst eu eH3
 refine L2.thn (st.run pins s3 σ H3 (fun o H4=>o=some (-1)∧H4=H3) I3 ⟨1,rfl,-1,rfl,rfl,rfl⟩) fun vs s4 ⟨o,H4,I4,ps,eo,eH4⟩=>?_
 subst eo eH4
 have J:Inv X pins σ H4 { s4 with heap:=s4.heap.push { cls:=.type "slice",data:=.fields #[vl,vu,vs] } }:=I4.kept (t':=s4.toks) fun b ob q=>Heap.get?_push_of_some _ q
 have lists:∀ xs,listOf h1 x=some xs→some (bj z (.lst xs.reverse) h1)=some (d,h')→wpAny (model X.prog X.w) X.A (subscriptTail e (.Slice none none (some (.UnaryOp .USub (.Constant (.int 1) k p1) p2)) p3) u (.ref s4.heap.objs.size)) (EP X pins σ Q) X.xe { s4 with heap:=s4.heap.push { cls:=.type "slice",data:=.fields #[vl,vu,vs] } }:=fun xs hx hf=>by
  obtain⟨rfl,rfl⟩:=bw hf
  obtain⟨a,ws,rfl,ea2,r2⟩:=bG hx R1 rv
  cases ru
  obtain⟨its,r,ht,hz⟩:=J.list (SqL.of ea2)
  have hlen:=r.length
  refine tail_any (ops:=[.ref a,.ref s4.heap.objs.size]) ht.isList.typeIs (PySem.slot_list_getitem.lookup) ?_ (by with_unfolding_all rfl)
  refine wpAny_getItem_list_slice ht.isList (Heap.IsSliceOf.new _ vl vu vs) pl pu ps (by decide) ?_ (by rw[List.size_toArray];omega)
  rw[PySem.W.krv_pick]
  have hp:=J.hok.fresh (Nat.le_refl _)
  refine⟨.ref _,_,J.laid (t':=s4.toks) (o:=.lst ws.reverse) (fun b ob q=>Heap.get?_push_of_some _ q) (Nat.le_refl _) ?_,rfl,dA R1 wq1 r2.rev hp⟩
  exact⟨by rw[List.length_reverse];exact hz,_,0,r.reverse,Heap.get?_push_size _ rfl⟩
 show wpAny (model X.prog X.w) X.A (subscriptTail e (.Slice none none (some (.UnaryOp .USub (.Constant (.int 1) k p1) p2)) p3) u (.ref s4.heap.objs.size)) (EP X pins σ Q) X.xe { s4 with heap:=s4.heap.push { cls:=.type "slice",data:=.fields #[vl,vu,vs] } }
 unfold qr at hf
 split at hf
 ·rename_i xs
  cases hf
  cases rv with
  | tup t r2=>
   rename_i a ws
   cases ru
   obtain⟨its,r,ht,hz⟩:=J.tuple (t.sq xw.K)
   have hlen:=r.length
   cases pl
   cases pu
   refine tail_any (ops:=[.ref a,.ref s4.heap.objs.size]) ht.typeIs (PyProof.Rows.slot_tuple_getitem.lookup) ?_ (by with_unfolding_all rfl)
   have hp:=J.hok.fresh (Nat.le_refl _)
   refine nH ht (Heap.IsSliceOf.new _ .none .none vs) ps ?_ (by rw[List.size_toArray];omega)
   refine⟨.ref _,_,J.laid (t':=s4.toks) (o:=.tup ws.reverse) (fun b ob q=>Heap.get?_push_of_some _ q) (Nat.le_refl _) ?_,rfl,cZ R1 wq1 r2.rev hp⟩
   exact⟨by rw[List.length_reverse];exact hz,_,r.reverse,⟨_,Heap.get?_push_size _ rfl,rfl,_,rfl⟩⟩
 ·split at hf
  ·exact lists _ (by assumption) hf
  ·cases hf
end
open L2 (upd upd_same upd_ne Cx VK Inv RelV HOk ObjOk PE PT PA CX0 Room FnOk Binds PS PSs Ends TS FunD FnScope Env0 CE CR XK Vals cxOf inv_start start SqL SqT HO Only hidT hidT_get hidT_size of_hidT Mod ObjOk vals_ints Gl pass0)
structure FnG (P:Program) (w:World) (K:PySem.W.Frag) (mg:Str→Option Value) (base:Heap) (k:Nat) (f:Addr) (fd:FuncData) (ps:List Str) (sp:L2.Sp):Prop where
 len:∀ vs H Q E,sp vs H Q E→vs.length=ps.length
 run:∀ (A:Around) (outer:List PySem.Env) (s:Shared) (H:HH) (args:Args) (us:List Value) (vs:List L2.V) (Q:VK) (E:XK),Room k A→A.guards=some []→Env0 P w K mg base A outer s H→BindsTo s fd args (ps.zip us)→Vals vs us→sp vs H Q E →
  codeAny (model P w) A (.call (.ref f) args) (CR CX0 outer P w H s Q E) s
theorem u3 {P:Program} {w:World} {K:PySem.W.Frag} {mg:Str→Option Value} {base:Heap} {k:Nat} {f:Addr} {x qual:Str} {params:Arguments} {body:List Stmt} {scope:Scope} {fd:FuncData} {N ps:List Str} {sp:L2.Sp}
  (D:FunD K x qual params body scope [] [] f fd) (S:FnScope N ps scope) (len:∀ vs H Q E,sp vs H Q E→vs.length=ps.length)
  (hbody:∀ (cdv:Value) (A:Around) (outer:List PySem.Env) (s:Shared) (H:HH) (vs:List L2.V) (Q:VK) (E:XK),Room k (A.deeper (envOfC qual scope s.heap.objs.size f cdv))→A.guards=some []→sp vs H Q E →
   ∃ t,PSs (cxOf CX0 P w K mg base N qual scope f cdv A outer s H E) body t∧t { nx:=fun _ H'=>Q .non H',rt:=Q } (start N vs) H):
  FnG P w K mg base (k + 1) f fd ps sp:=by
 obtain⟨oc,od,dV,kV,doc,pm,an,cdv,ct,osl,rfl,lk,hcd,_,_⟩:=D.ex
 refine⟨len,fun A outer s H args us vs Q E hr hg e0 hb r hsp=>?_⟩
 have hl:=len _ _ _ _ hsp
 have kin:K.In s.heap:=e0.mod.kin.keeps fun b o e=>(e0.bs b o e).1
 have lim:s.heap.NoLimit:=e0.mod.nolimit.keeps fun b o e=>(e0.bs b o e).1
 have kinds:∀ y∈ps.zip us,scope.names.lookup y.1=some .local∨(scope.names.lookup y.1=some .cell∧((cellsFrom (s.heap.objs.size + 1) scope.names []).lookup y.1).isSome=true):=by
  rintro ⟨n,v⟩ hy
  have q:=S.par n (List.of_mem_zip hy).1
  exact q.imp id fun z=>⟨z,PySem.W.cellsFrom_some _ _ _ (.inl z)⟩
 refine codeAny_call_function hr.depth (kin _ _ lk) rfl S.co S.gen rfl (PySem.W.codeRec_of kin hcd) (hb _ _ _ _ (wpAny_newFunctionEnv_cells S.kind kinds fun env he s1 ic=>?_))
 subst he
 refine⟨lim.keeps ic.toInCall.keep,codeAny_func ?_⟩
 obtain⟨t,ht,hq⟩:=hbody cdv A outer s H vs Q E (hr.deeper _) hg hsp
 have I:Inv (cxOf CX0 P w K mg base N qual scope f cdv A outer s H E) [] (start N vs) H s1:=inv_start S hr.hd e0 hl r ic
 refine wpAny_mono (ht.run [] s1 (start N vs) H _ I hq) (fun fl s' hs=>?_) fun e s' hs=>hs
 have done:∀ {σ':L2.St} {H':HH} {v:L2.V} {u:Value},Inv (cxOf CX0 P w K mg base N qual scope f cdv A outer s H E) [] σ' H' s'→RelV v u→Q v H'→CE outer P w H s Q u s':=
  fun {σ' H' v u} J rv q=>⟨v,H',J.os,J.bare,J.base,J.hok,rv,q⟩
 cases fl with
 | ret u=>exact let ⟨_,_,_,J,rv,q⟩:=hs;done J rv q
 | next=>exact let ⟨_,_,J,q⟩:=hs;done (v:=L2.V.non) (u:=Value.none) J rfl q
 | brk=>exact (let ⟨_,_,_,q⟩:=hs;q:False).elim
 | cont=>exact (let ⟨_,_,_,q⟩:=hs;q:False).elim
section
variable {W:Wd} {X:Cx} {f:Addr} {fd:FuncData} {ps:List Str} {k:Nat} {g:List D→Mm→Option (D×Mm)} {x:Str} {p pos:Pos} {es:List Expr} {fs:Fa} {sp:L2.Sp} {t:L2.TA}
theorem tU {pins:List (Addr×Obj)} {σ:L2.St} {H:HH} {s:Shared} {Q:VK} {us:List Value} {vs:List L2.V} (F:FnG X.prog X.w X.K X.mg X.base k f fd ps sp) (hr:Room k X.A) (hg:X.A.guards=some []) (hb:Binds X.K fd ps [])
  (I:Inv X pins σ H s) (r:Vals vs us) (h:sp vs H Q L2.E0):wpAny (model X.prog X.w) X.A (PySem.call (.ref f) us) (L2.EP X pins σ Q) X.xe s:=by
 have hl:(us++[]).length=ps.length:=by rw[List.append_nil,← r.length];exact F.len _ _ _ _ h
 have b0:=hb s us I.kIn hl
 rw[List.append_nil]at b0
 refine wpAny_call (codeAny_mono (F.run X.A X.stack s H ⟨us,[]⟩ us vs Q L2.E0 hr hg I.env0 b0 r h) fun r s' hq=>?_)
 match r,hq with
 | .error e,hq=>exact (pass0 (X:=X)) pins σ H s e s' I hq
 | .ok (.ret u),hq=>exact I.after hq
theorem pK (F:FnG X.prog X.w X.K X.mg X.base k f fd ps sp) (hr:Room k X.A) (hg0:X.A.guards=some []) (hg:Gl X x) (hm:X.mg x=some (.ref f)) (hk:PySem.W.keepIn X.K (.ref f)=true) (hb:Binds X.K fd ps []) {e:Expr} {r:List Expr}
  (ha:PA X (e :: r) t) (hdb:(x == ("__debug__":Str))=false) (he:starEach (e :: r) X.env=(false,eval e X.env) :: starEach r X.env) (hpl:(backTo pos (starEach r X.env)).any (·.1)=false):
  PE X (.Call (.Name x p) (e :: r) [] pos) (L2.tCall sp [] L2.E0 t):=by
 refine⟨fun pins s σ H Q I h=>wpAny_Call_Name_kw (L2.ld_glob I hg hm ?_ hdb)⟩
 refine PySem.W.callWith_K (h₀:=X.base) I.ok.mod.kin hk (L2.thn (ha.run pos pins s σ H _ I h) fun us s1 ⟨vs,H1,I1,rr,q⟩=>⟨I1.kIn,?_⟩) he hpl
 have q:sp (vs++[]) H1 Q L2.E0:=q
 rw[List.append_nil]at q
 exact tU F hr hg0 hb I1 rr q
theorem om {md:Md} (F:FnG X.prog X.w X.K X.mg X.base k f fd ps (be W ps.length g)) (ar:Ar ps.length g) (hr:Room k X.A) (hg0:X.A.guards=some []) (hg:Gl X x) (hm:X.mg x=some (.ref f)) (hk:PySem.W.keepIn X.K (.ref f)=true) (hb:Binds X.K fd ps [])
  (hdb:(x == ("__debug__":Str))=false) {e:Expr} {r:List Expr} (pl:aJ (e :: r)=true) (ha:PA X (e :: r) (bK W fs)):
  PE X (.Call (.Name x p) (e :: r) [] pos) (tE W fun env h=>match fs env h with | some (vs,h1)=>aU md g vs h1 | none=>none):=by
 simp only[aJ,Bool.and_eq_true]at pl
 refine L2.PE.sub (pK F hr hg0 hg hm hk hb ha hdb (am pl.1) (aV pl.2)) ?_
 rintro σ H Q ⟨env,S,ρ,h,d,h',re,R,hf,wq⟩
 try dsimp only at hf
 split at hf
 rotate_left
 ·cases hf
 rename_i vs h1 ea
 refine⟨env,S,ρ,h,vs,h1,re,R,ea,fun S1 ρ1 H1 us g1 R1 r1=>?_⟩
 show be W ps.length g (us++[]) H1 Q L2.E0
 rw[List.append_nil]
 obtain⟨h0,r0,e0⟩:=dE hf
 exact du R1 r1 (by rw[← r1.len];exact ar _ _ _ e0) hf (aN.pre g1 wq)
end
end Ev
end
section
namespace L2
open PySem PySem.Spec PyProof.Rows
end L2
namespace Ev
open PySem
open L2 (upd upd_same upd_ne ne_of ne_of_none Cx VK OpR SqL SqT Key kV Inv valV putK RelV HOk ObjOk IxR SlR TruR PSet PGet CallR MtR EP PE PT PA PW TE TT TA PO thn CX0 pass0 Room FnOk FnR Gl Binds Cls Meth Mk)
def u4 (W:Wd) (g:List D→Mm→Option (D×Mm)):L2.Sp:=fun vs H Q E=>∃ ws rest,vs=ws++rest∧ws.length=1∧rest.length≤sizeLine∧∀ p,H p=none→be W 2 g (ws++[L2.V.ref p]) (upd H p (.tup rest)) Q E
open PySem PyProof.Rows
open L2 (TabOk way nth runAt adv MaskOk searchRest wp_if_pos wp_if_neg)
section
variable {P:Program} {w:World}
def rN (P:Program) (w:World) (n:Nat) (s:Shared) (v:Value):Prop:=∀ (A:Around) (E:Value→Shared→Prop) (Q:Bool→Shared→Prop),Q false s→wpAny (model P w) A (ofAClassStatement n v) Q E s
def r8 (P:Program) (w:World) (n:Nat) (s:Shared) (v:Value):Prop:=∃ b,∀ (A:Around) (E:Value→Shared→Prop) (Q:Bool→Shared→Prop),Q b s→wpAny (model P w) A (hashByValue n v) Q E s
theorem rN.tuple {n:Nat} {s:Shared} {a:Addr} {o:Obj} {vs:Array Value} {m:Nat} (ho:s.heap.get? a=some o) (hc:o.cls = .type "tuple") (hd:o.data = .seq vs m) (hq:∀ v∈vs.toList,rN P w n s v):rN P w (n + 1) s (.ref a):=fun A E Q q=>by
 unfold ofAClassStatement
 refine wpAny_bind (wpAny_typeOf ⟨_,ho,hc⟩ ?_)
 dsimp only
 have e:(("tuple":String) == "tuple")=true:=by decide
 simp only[e,if_true,Bool.not_true,Bool.false_eq_true,if_false]
 try refine wpAny_bind (wpAny_pure ?_)
 try simp only[Bool.not_true,Bool.false_eq_true,if_false]
 show wpAny _ _ (seqItems? (.ref a) >>= _) _ _ s
 refine wpAny_bind (wpAny_seqItems ho hd (wpAny_bind ?_))
 show wpAny _ _ (forIn vs _ _) _ _ s
 rw[← Array.forIn_toList]
 generalize vs.toList=l at hq
 refine wpAny_forIn_list _ (fun rest r s'=>(r.1=none∧s' = s)∧∀ v∈rest,rN P w n s v) _ ?_ ?_ _ _ ⟨⟨rfl,rfl⟩,hq⟩
 ·rintro v rest r s' ⟨⟨hr,rfl⟩,g⟩
  refine wpAny_bind (g v (List.mem_cons_self ..) _ _ _ ?_)
  simp only[Bool.false_eq_true,if_false]
  exact wpAny_pure ⟨⟨rfl,rfl⟩,fun u m=>g u (List.mem_cons_of_mem _ m)⟩
 ·rintro ⟨r1,r2⟩ s' ⟨⟨hr,rfl⟩,_⟩
  cases hr
  exact wpAny_pure q
theorem r8.tuple {n:Nat} {s:Shared} {a:Addr} {o:Obj} {vs:Array Value} {m:Nat} (ho:s.heap.get? a=some o) (hc:o.cls = .type "tuple") (hd:o.data = .seq vs m) (hq:∀ v∈vs.toList,r8 P w n s v):r8 P w (n + 1) s (.ref a):=by
 have key:∀ l:List Value,(∀ v∈l,r8 P w n s v)→∃ b:Bool,∀ (A:Around) (E:Value→Shared→Prop) (R:Option Bool×Unit→Shared→Prop),R (if b then none else some false,()) s →
   wpAny (model P w) A (forIn l ((none,()):Option Bool×Unit) fun v r=>do
    let c ← hashByValue n v
    if !c then pure (.done (some false,())) else pure (.yield (none,()))) R E s:=by
  intro l
  induction l with
  | nil=>exact fun _=>⟨true,fun A E R q=>wpAny_pure q⟩
  | cons v l ih=>
   intro g
   obtain⟨c,hcv⟩:=g v (List.mem_cons_self ..)
   obtain⟨b,hb⟩:=ih fun u m=>g u (List.mem_cons_of_mem _ m)
   cases c with
   | false=>
    refine⟨false,fun A E R q=>?_⟩
    rw[List.forIn_cons]
    exact wpAny_bind (wpAny_bind (hcv _ _ _ (wpAny_pure (wpAny_pure q))))
   | true=>
    refine⟨b,fun A E R q=>?_⟩
    rw[List.forIn_cons]
    exact wpAny_bind (wpAny_bind (hcv _ _ _ (wpAny_pure (hb _ _ _ q))))
 obtain⟨b,hb⟩:=key vs.toList hq
 refine⟨b,fun A E Q q=>?_⟩
 unfold hashByValue
 refine wpAny_bind (wpAny_specialOf ⟨_,ho,hc⟩ F.slot_tuple_hash.lookup ?_)
 show wpAny _ _ (seqItems? (.ref a) >>= _) _ _ s
 refine wpAny_bind (wpAny_seqItems ho hd (wpAny_bind ?_))
 show wpAny _ _ (forIn vs _ _) _ _ s
 rw[← Array.forIn_toList]
 refine hb _ _ _ ?_
 cases b<;>exact wpAny_pure q
abbrev SK:=List (Addr×NestedKey)
def oh (w:World) (L:SK):List (Int×Value):=L.map fun p=>(p.2.hash w,Value.ref p.1)
structure SetN (P:Program) (w:World) (h:Heap) (a:Addr) (L:SK) (es:Array (Int×Value)) (ep:Nat) (t:SetTable):Prop where
 ob:∃ o,h.get? a=some o∧o.ExactSet∧o.data = .set es ep t
 rw_:es.toList=oh w L
 tab:TabOk t (L.map fun p=>p.2.hash w)
 nd:(L.map (·.2)).Nodup
 ks:∀ p∈L,(nestedKind P w).is h p.2 p.1
 ld:w.params.followText "set-order" = true∨t.led=true
 rm:L.length * 5 < t.mask * 3
variable {A:Around} {E:Value→Shared→Prop} {s:Shared} {a:Addr} {L:SK} {es:Array (Int×Value)} {ep:Nat} {t:SetTable}
theorem sO {w:World} {L:SK} {es:Array (Int×Value)} (e:es.toList=oh w L):es.size=L.length:=by
 have:=congrArg List.length e
 simpa [oh] using this
theorem SetN.len (R:SetN P w s.heap a L es ep t):es.size=L.length:=sO R.rw_
theorem SetN.row (R:SetN P w s.heap a L es ep t) {i:Nat} {p:Addr×NestedKey} (h:L[i]? = some p):es[i]? = some (p.2.hash w,Value.ref p.1):=by
 have e:es.toList[i]? = (oh w L)[i]?:=by rw[R.rw_]
 rw[Array.getElem?_toList]at e
 rw[e]
 simp[oh,h]
end
open L2 (TabOk way nth runAt adv MaskOk wp_if_pos wp_if_neg)
open L2 (wp_if_pos wp_if_neg)
section
variable {P:Program} {w:World} {A:Around} {E:Value→Shared→Prop} {s:Shared}
theorem SetN.kept {h h':Heap} {a:Addr} {L:SK} {es:Array (Int×Value)} {ep:Nat} {t:SetTable} (R:SetN P w h a L es ep t) (ha:∀ o,h.get? a=some o→h'.get? a=some o) (hk:∀ p∈L,(nestedKind P w).is h' p.2 p.1):SetN P w h' a L es ep t:=by
 obtain⟨o,ho,r⟩:=R.ob
 exact⟨⟨o,ha o ho,r⟩,R.rw_,R.tab,R.nd,hk,R.ld,R.rm⟩
end
open PySem PySem.Spec PyProof.Rows
open L2 (upd upd_same upd_ne Cx VK SqL Inv RelV HOk ObjOk EP wp_if_pos wp_if_neg)
open L2 (upd upd_same upd_ne Cx VK SqL Inv RelV HOk ObjOk EP PE Gl wp_if_pos wp_if_neg)
open L2 (upd upd_same upd_ne ne_of ne_of_none Cx VK OpR SqL SqT Key kV Inv valV putK RelV HOk ObjOk IxR SlR TruR PSet PGet CallR MtR EP PE PT PA PW TE TT TA PO thn CX0 pass0 Room FnOk Gl Binds Cls Meth Mk PG PGs TG TGs PI TI Turn FpOk Loc PTs BlkOk PS PSs Ends TS)
open L2 (upd upd_same upd_ne ne_of ne_of_none Cx VK OpR SqL SqT Key kV Inv valV putK RelV HOk ObjOk EP PE PT Gl)
section
variable {W:Wd} {H:HH} {S:Addr→Prop} {ρ:aq} {h:Mm} {X:Cx} {pins:List (Addr×Obj)} {σ:L2.St} {s:Shared} {a b e:Expr} {fa fb fe:Fe}
def tOp (ng:Bool):CmpOp:=bif ng then .NotEq else .Eq
end
open L2 (upd upd_same upd_ne ne_of ne_of_none Cx VK XK WX Inv RelV HOk ObjOk PE PA PS PSs PT PI PG TE TA TG TT TI TS Room FnOk Gl Binds Cls Meth PassesAt WE BlkOk PTs FpOk wipe wipe_length wipe_some cloFrom restrict Zc frs Un tLc Hp thn thnF block_start newEnv_comp app_ok closure_ok compLoop_any nodup_ix mem_pinsAt pinsAt XE)
theorem nZ {e1 e2:PySem.Env} (h:e1.frame=e2.frame) (x:Value):noteFrame x e1=noteFrame x e2:=by
 unfold noteFrame PySem.frameOf
 rw[h]
theorem oU {X:Cx} {pins:List (Addr×Obj)} {σ:L2.St} {H:Hp} {s s':Shared} {E:XK} {u:Value} (I:Inv X pins σ H s) (c:L2N.CX X.prog X.w X.stack H s E u s'):
  ∃ (a:Addr) (B:Heap) (sI:Shared) (H':Hp) (cls:Value) (d:Option Addr),u = .ref a∧Inv X pins σ H' sI∧(∀ b o,sI.heap.get? b=some o→b∉frs X.stack→B.get? b=some o)∧sI.heap.UpToSlots s'.heap ∧
   HandSPX.FlyingZ B X.stack a (L2N.Zn cls d) s'.heap∧H' a=none∧s'.os=sI.os∧AllBare s'.gens∧E cls d H':=by
 obtain⟨a,B,H',cls,d,rfl,fl,hok,ub,na,os,ag,hE⟩:=c
 obtain⟨G,g1,g2⟩:=restrict s'.heap fun b=>(B.get? b).isSome||decide (b∈frs X.stack)
 have st:B.StaysIn s'.heap:=fl.1
 have gB:∀ b o,B.get? b=some o→G.get? b=some o:=fun b o e=>by
  rw[g1 b (by simp[e])]
  exact st b o e
 have gF:∀ b,b∈frs X.stack→G.get? b=s'.heap.get? b:=fun b hb=>g1 b (by simp[hb])
 have og:∀ b o,G.get? b=some o→s'.heap.get? b=some o∧((B.get? b).isSome=true∨b∈frs X.stack):=fun b o e=>by
  cases q:((B.get? b).isSome||decide (b∈frs X.stack)) with
  | false=>rw[g2 b q]at e;cases e
  | true=>
   rw[g1 b q]at e
   exact⟨e,by simpa [Bool.or_eq_true] using q⟩
 refine⟨a,B,{ s with heap:=G,gens:=s'.gens,drawn:=s'.drawn,toks:=s'.toks },H',cls,d,rfl,?_,fun b o e hb=>?_,Heap.UpToSlots.of_keeps fun b o e=>(og b o e).1,fl,na,os,ag,hE⟩
 ·refine I.call (ch:=[]) ⟨fun b o e n hb _=>gB b o (ub.keep b o e n hb),fun b o e n hb _=>?_,fun b o e n _=>ub.free b o e n,fun b o e _=>?_,ub.tups,ub.frzs,ub.tbls⟩ (hok.kept gB) ag (fun _ z=>nomatch z)
  ·obtain⟨sl,q⟩:=ub.slot b o e hb
   exact⟨sl,by rw[gF b hb];exact q⟩
  ·by_cases hb:b∈frs X.stack
   ·obtain⟨sl,q⟩:=ub.slot b o e hb
    exact⟨_,by rw[gF b hb];exact q⟩
   ·obtain⟨o',q⟩:=ub.there b o e hb
    exact⟨o',gB b o' q⟩
 ·obtain⟨e',h⟩:=og b o e
  rcases h with h | h
  ·obtain⟨o',q⟩:=Option.isSome_iff_exists.mp h
   have z:=st b o' q
   rw[e']at z;cases z
   exact q
  ·exact absurd h hb
def dU (M:Model) (A:Around) (E:Value→Shared→Prop) (Q:Value→Shared→Prop) (acc:Value) (cenv:PySem.Env) (r:Result) (s':Shared):Prop:=
 match r with
 | .ok _=>∃ m,s'.heap.Ns cenv.locals m∧∀ h',Heap.SameBut cenv.locals s'.heap h'→Q acc { s' with heap:=h' }
 | .error x=>∃ m,s'.heap.Ns cenv.locals m∧∀ h',Heap.SameBut cenv.locals s'.heap h'→wpAny M A (passOn "comprehension.variables-let-go" x cenv:Sem Value) (fun _ _=>False) E { s' with heap:=h' }
theorem gY {M:Model} {A:Around} {E:Value→Shared→Prop} {s:Shared} {env:PySem.Env} {e:Expr} {scope:Scope} {pos:Pos} {newAcc first:Sem Value} {g:Comprehension} {gs:List Comprehension} {cl:List (Str×Addr)}
  {Q:Value→Shared→Prop}
  (hcl:clausesOf e=g :: gs) (hs:∀ x,foldedSetIterable g.iter env x=pure x) (hclos:closureFor scope env=pure cl)
  (hkind:scope.kind = .function) (hnames:∀ x∈scope.names,x.2 = .local→scope.names.lookup x.1=some .local)
  (h:wpAny M A first (fun x s₁=>wpAny M A (pyIter x) (fun it s₂=>wpAny M A newAcc (fun acc s₃=>
   wpAny M A (newFunctionEnv scope env.globals cl [] env.qual none .none (some env)) (fun cenv s₄=>
    codeAny M A (.compStart e 0 it acc { cenv with scope:=relabel scope env }) (dU M A E Q acc { cenv with scope:=relabel scope env }) s₄) E s₃) E s₂) E s₁) E s):
  wpAny M A (comprehension e scope env pos newAcc false first none) Q E s:=by
 unfold comprehension
 rw[hclos,hcl]
 refine wpAny_bind (wpAny_mono h (fun x s₁ h₁=>wpAny_bind (wpAny_standAt (wpAny_bind (wpAny_of_eq (hs x) (wpAny_bind (wpAny_holding (wpAny_mono h₁ (fun it s₂ h₂=>
  wpAny_standIf (wpAny_bind (wpAny_mono h₂ (fun acc s₃ h₃=>wpAny_bind (wpAny_pure (wpAny_bind (wpAny_mono h₃ (fun cenv s₄ h₄=>?_) fun _ _ h'=>h')))) fun _ _ h'=>h')))
   fun _ _ h'=>h'))))))) fun _ _ h'=>h')
 dsimp only
 have hv:∀ x∈(scope.names.filter fun x=>(x.2 == .local||x.2 == .cell)&&x.1 != (".0":Str)).reverse,x.2 = .local →
   Env.kindOf { cenv with scope:=relabel scope env } x.1=some .local:=fun x hx hl=>lookup_relabel_local (hnames x (List.mem_filter.mp (List.mem_reverse.mp hx)).1 hl)
 refine wpAny_holding (wpAny_bind (wpAny_attempt (wpAny_holding (wpAny_run (codeAny_mono h₄ fun r s' hr=>?_)))))
 cases r with
 | ok f=>
  obtain⟨m,hn,hr⟩:=hr
  exact wpAny_bind (wpAny_holding (wpAny_comp_letGo (cenv:={ cenv with scope:=relabel scope env }) hkind _ s' m hv hn fun h' m' _ hs'=>wpAny_pure (hr h' hs')))
 | error x=>
  obtain⟨m,hn,hr⟩:=hr
  exact wpAny_bind (wpAny_holding (wpAny_comp_letGo (cenv:={ cenv with scope:=relabel scope env }) hkind _ s' m hv hn fun h' m' _ hs'=>wpAny_mono (hr h' hs') (fun _ _ f=>f.elim) fun _ _ y=>y))
section
variable {X:Cx} {W:WX}
theorem pW {pins:List (Addr×Obj)} {s:Shared} {σ:L2.St} {H:Hp} {Q:VK} {elt tg iter:Expr} {ifs:List Expr} {scope:Scope} {own:List (Str×Nat)} {pos pos':Pos} {wi:TI} {g:TG} {tt:TT} {te:XK→TE} {Qf:Value→Shared→Prop}
  (hst:X.stack=X.env :: X.outer) (hfr:X.env.frame=some X.env.locals) (tk:L2N.Takes X W)
  (hc:X.calm=true) (hN:X.N.Nodup) (I:Inv X pins σ H s) (hi:PI X tg iter wi) (ok:BlkOk X.N X.env.scope scope own)
  (hg:∀ (s:Shared) (H:Hp) (C:Addr) (cl:List (Str×Addr)) (fp:List Addr),PG (X.blk s H scope (compEnvC scope cl C X.env) fp) tg g) (ht:∀ (s:Shared) (H:Hp) (C:Addr) (cl:List (Str×Addr)) (fp:List Addr),PTs (X.blk s H scope (compEnvC scope cl C X.env) fp) ifs tt)
  (he:∀ (s:Shared) (H:Hp) (C:Addr) (cl:List (Str×Addr)) (fp:List Addr) (xe:Value→Shared→Prop) (E:XK),(∀ σ,PassesAt (L2N.CX X.prog X.w) ((X.blk s H scope (compEnvC scope cl C X.env) fp).wish xe) σ E)→PE ((X.blk s H scope (compEnvC scope cl C X.env) fp).wish xe) elt (te E)) (hs:∀ x,foldedSetIterable iter X.env x=pure x)
  (h:tLc wi g tt (te (WE W σ)) (own.map (·.2)) σ H Q)
  (hRR:∀ D C s' m H',Inv X pins σ H' s'→Q (.ref D) H'→s'.heap.Ns C m→FpOk X pins H' C→∀ h',Heap.SameBut C s'.heap h'→Qf (.ref D) { s' with heap:=h' }):
  wpAny (model X.prog X.w) X.A (comprehension (.ListComp elt [⟨tg,iter,ifs,0⟩] scope pos) scope X.env pos' (newList []) false (eval iter X.env) none) Qf X.xe s:=by
 have hfree:∀ y∈scope.names,y.2 = .free→∃ c,X.env.cells.lookup y.1=some c:=fun y hy e=>by
  rcases ok.free y hy e with k | k
  ·exact I.ok.has _ (.inl k)
  ·exact I.ok.has _ (.inr k)
 refine gY rfl hs (closure_ok hfree) ok.kind (fun y hy e=>by rw[ok.uniq y hy,e])
  (thn (hi.run pins s σ H _ I h) fun xv s1 hx=>thn hx fun itv s2 h2=>?_)
 obtain⟨it,fp,tn,J,H2,e,I2,T,st2,f2,q⟩:=h2
 subst e
 refine wpAny_newObj_type (newEnv_comp ?_) (by show 0≤sizeLine;decide)
 generalize hD:s2.heap.objs.size=D
 have hDn:H2 D=none:=I2.hok.fresh (Nat.le_of_eq hD)
 obtain⟨Wt,⟨m0,w0⟩,turn⟩:=q D hDn
 -- the new list
 generalize hs3:({ s2 with heap:=s2.heap.push { cls:=.type "list",data:=.seq ([]:List Value).toArray } }:Shared)=s3
 have I3:Inv X pins σ (upd H2 D (.lst [])) s3:=by
  rw[← hs3]
  refine I2.laid (t':=s2.toks) (fun b o e=>Heap.get?_push_of_some _ e) (Nat.le_of_eq hD) ⟨Nat.zero_le _,[],0,.nil,?_⟩
  rw[← hD]
  exact Heap.get?_push_size _ rfl
 have h3:s3.heap=s2.heap.push { cls:=.type "list",data:=.seq ([]:List Value).toArray }:=by rw[← hs3]
 have sz:∀ b∈fp,b < s2.heap.objs.size:=fun b hb=>by
  obtain⟨o,e,_⟩:=T.obj _ _ st2 b hb
  exact Heap.lt_size e
 have f3:∀ b∈fp,FpOk X pins (upd H2 D (.lst [])) b∧b < s3.heap.objs.size:=fun b hb=>by
  have hlt:=sz b hb
  refine⟨⟨?_,(f2 b hb).2⟩,by rw[h3,Heap.size_push];exact Nat.lt_succ_of_lt hlt⟩
  rw[upd_ne (by rw[← hD];exact Nat.ne_of_lt hlt)]
  exact (f2 b hb).1
 have st3:tn 0 s3.heap:=T.keep _ _ _ st2 fun b _ o e=>by rw[h3];exact Heap.get?_push_of_some _ e
 have I4:=block_start I3 ok hN f3
 have pg:=hg s3 (upd H2 D (.lst [])) s3.heap.objs.size (cellsFrom (s3.heap.objs.size + 1) scope.names (cloFrom X.env.cells scope.names [])) fp
 have pt:=ht s3 (upd H2 D (.lst [])) s3.heap.objs.size (cellsFrom (s3.heap.objs.size + 1) scope.names (cloFrom X.env.cells scope.names [])) fp
 have pe:=he s3 (upd H2 D (.lst [])) s3.heap.objs.size (cellsFrom (s3.heap.objs.size + 1) scope.names (cloFrom X.env.cells scope.names [])) fp
 show codeAny _ _ (.compStart (.ListComp elt [⟨tg,iter,ifs,0⟩] scope pos) 0 (.ref it) (.ref D) (compEnvC scope (cellsFrom (s3.heap.objs.size + 1) scope.names (cloFrom X.env.cells scope.names [])) s3.heap.objs.size X.env))
  (dU (model X.prog X.w) X.A X.xe Qf (.ref D) (compEnvC scope (cellsFrom (s3.heap.objs.size + 1) scope.names (cloFrom X.env.cells scope.names [])) s3.heap.objs.size X.env)) { s3 with heap:=pushCells (s3.heap.push { cls:=.type "dict",data:=.dict #[] }) scope.names }
 have nfp:∀ b∈fp,(upd H2 D (.lst [])) b=none:=fun b hb=>(f3 b hb).1.1
 generalize hce:compEnvC scope (cellsFrom (s3.heap.objs.size + 1) scope.names (cloFrom X.env.cells scope.names [])) s3.heap.objs.size X.env=ce at I4 pg pt pe ⊢
 have cL:ce.locals=s3.heap.objs.size:=by subst hce;rfl
 have cF:ce.frame=X.env.frame:=by subst hce;rfl
 generalize hH3:upd H2 D (.lst [])=H3 at I3 I4 pg pt pe w0 nfp f3
 generalize hs4:({ s3 with heap:=pushCells (s3.heap.push { cls:=.type "dict",data:=.dict #[] }) scope.names }:Shared)=s4 at I4 ⊢
 have st4:tn 0 s4.heap:=T.keep _ _ _ st3 fun b _ o e=>by rw[← hs4];exact pushCells_keeps _ _ _ _ (Heap.get?_push_of_some _ e)
 have stat:∀ {σ':L2.St} {H':Hp} {s':Shared},Inv (X.blk s3 H3 scope ce fp) [] σ' H' s'→(∀ b∈fp,H' b=none)→∀ b∈fp,FpOk (X.blk s3 H3 scope ce fp) [] H' b:=fun {σ' H' s'} I' hn b hb=>
  ⟨hn b hb,(I'.ok.exf b hb).1,I'.ok.exfs b hb,.inl hb,fun x c e=>(I'.ok.exf b hb).2 x c e,fun p hp=>absurd (show p∈([]:List (Addr×Obj))++[] from hp) (by simp)⟩
 have fch:∀ b∈fp,(b∈X.ex∨X.s_0.heap.objs.size≤b)∧b≠X.env.locals∧(∀ x c,X.env.cells.lookup x=some c→c≠b)∧∀ p∈X.pn++pins,p.1≠b:=fun b hb=>⟨(f3 b hb).1.2.2.2.1,(f3 b hb).1.2.1,(f3 b hb).1.2.2.2.2.1,(f3 b hb).1.2.2.2.2.2⟩
 -- the element's exception
 let xeb:Value→Shared→Prop:=fun u s'=>∃ pins' σ' H' sB,Inv (X.blk s3 H3 scope ce fp) pins' σ' H' sB∧L2N.CX X.prog X.w X.stack H' sB (WE W σ) u s'
 have airX:∀ (u:Value) (s':Shared),xeb u s'→notedBy (model X.prog X.w) X.A ce (fun e s'=>dU (model X.prog X.w) X.A X.xe Qf (.ref D) ce (.error e) s') u s':=fun u s' ⟨pins',σ',H',sB,IB,cx⟩=>by
  obtain⟨a,B,sI,H6,cls,d,rfl,I6,nb,up,fl,na,os,ag,hW⟩:=oU (X:=X.blk s3 H3 scope ce fp) IB cx
  have hfA:X.A.frames=some (X.env :: X.outer):=by rw[I.ok.frames,hst]
  show wpAny _ _ (noteFrame (.ref a) ce) _ _ _
  rw[nZ cF]
  have fl':HandSPX.FlyingZ B (X.env :: X.outer) a (L2N.Zn cls d) s'.heap:=by rw[← hst];exact fl
  refine PXN.looks_onZ L2N.Zn.steady hfA hfr fl' fun h7 hd7 up7=>?_
  have J7:Inv (X.blk s3 H3 scope ce fp) pins' σ' H6 { s' with heap:=h7 }:=I6.landed nb hd7.1 (up.trans up7) os ag
  obtain⟨m7,hn7,_⟩:=J7.loc
  refine⟨m7,hn7,fun h8 sb=>?_⟩
  obtain⟨k1,k2,k3,oe,vs,T7,oT,ts,h_e,hz,hd,h1,hnT,hTe,hT,hdT,hf3⟩:=id hd7
  have nC:∀ {b o} {vs:Array Value},h7.get? b=some o→o.data = .fields vs→b≠ce.locals:=fun {b o vs} e1 e2 z=>by
   obtain⟨o',es,ep,e3,e4,_⟩:=hn7
   rw[z]at e1
   have e3:h7.get? ce.locals=some o':=e3
   rw[e1]at e3;cases e3
   rw[e2]at e4;cases e4
  have aC:=nC h_e hd
  have TC:=nC hT hdT
  have lC:H6 ce.locals=none:=J7.free
  have stC:ce.locals∉frs X.stack:=fun hm=>by
   have z:=(I3.stack.mem hm)
   obtain⟨_,o,e,_⟩:=z
   have:=Heap.lt_size e
   rw[cL]at this
   exact Nat.lt_irrefl _ this
  -- the ground without the block's names
  let B':=PySem.W.hideAll B [ce.locals]
  have hld:HandSPX.HeldZ B' (X.env :: X.outer) a (L2N.Zn cls d) X.env.locals h8:=by
   refine⟨fun b o e=>?_,?_,?_,?_⟩
   ·have hb:b≠ce.locals:=fun z=>by
     rw[z,PySem.W.hideAll_none [ce.locals] List.mem_cons_self]at e;cases e
    rw[sb.2 b hb]
    exact k1 b o (PySem.W.of_hideAll _ e)
   ·cases q:B'.get? a with
    | none=>rfl
    | some o=>
     have z:=PySem.W.of_hideAll _ q
     rw[k2]at z;cases z
   ·have f1:(PySem.W.hideAll h7 [ce.locals]).FunFrames B (X.env :: X.outer):=PySem.W.funFrames_hideAll k3 fun env u1 b hb hf=>by
     have hb:b=ce.locals:=by simpa using hb
     subst hb
     exact stC (by rw[hst];exact List.mem_filterMap.mpr ⟨env,u1,hf⟩)
    have f2:(PySem.W.hideAll h7 [ce.locals]).FunFrames B' (X.env :: X.outer):=L2.funFrames_none f1 fun L hL=>by
     cases q:B'.get? L with
     | none=>rfl
     | some o=>
      have z:=PySem.W.of_hideAll _ q
      rw[(k3.mem hL).1]at z;cases z
    refine Heap.FunFrames.of_keeps (fun b o e _=>?_) f2
    have hb:b≠ce.locals:=fun z=>by
     rw[z,PySem.W.hideAll_none [ce.locals] List.mem_cons_self]at e;cases e
    exact⟨o,(sb.2 b hb).trans (PySem.W.of_hideAll _ e),rfl⟩
   ·refine⟨oe,vs,T7,oT,ts,(sb.2 a aC).trans h_e,hz,hd,h1,?_,hTe,(sb.2 T7 TC).trans hT,hdT,hf3⟩
    cases q:B'.get? T7 with
    | none=>rfl
    | some o=>
     have z:=PySem.W.of_hideAll _ q
     rw[hnT]at z;cases z
  show wpAny _ _ (passOn "comprehension.variables-let-go" (.ref a) ce:Sem Value) _ _ _
  unfold PySem.passOn
  refine wpAny_bind (wpAny_field ((sb.2 a aC).trans h_e) hd h1 ?_)
  rw[if_neg (show ¬ ((Value.ref T7 == Value.none)=true) from by simp)]
  have fin:wpAny (model X.prog X.w) X.A (setFlight (.ref a) ce.frame) (fun _ s4=>wpAny (model X.prog X.w) X.A (throw (.ref a):Sem Value) (fun _ _=>False) X.xe s4) X.xe { s' with heap:=h8 }:=by
   rw[cF,hfr]
   refine HandSPX.setFlight_onZ hld fun h9 hh9 up9=>wpAny_throw (tk _ _ ?_)
   -- the state without the block's names
   refine⟨a,B',{ sI with heap:=PySem.W.hideAll sI.heap [ce.locals] },pins,σ,H6,cls,d,rfl,?_,fun b o e hb=>?_,fun b o e hnf=>?_,.inr (.inr (by rw[hst];exact hh9)),na,os,ag,hW⟩
   ·have base:Un (frs X.stack) fp H3 H6 s3.heap sI.heap:=I6.base
    have ne:∀ {b o},s3.heap.get? b=some o→b∉[ce.locals]:=fun {b o} e hm=>by
     have z:b=ce.locals:=by simpa using hm
     rw[z,cL]at e
     exact Nat.lt_irrefl _ (Heap.lt_size e)
    have hk:HOk X.prog X.w H6 (PySem.W.hideAll sI.heap [ce.locals]):=fun b o q=>(I6.hok b o q).stay (fun c u hc r=>PySem.W.hideAll_get _ r fun hm=>by
     have z:c=ce.locals:=by simpa using hm
     subst z
     rcases hc with hc | hc
     ·rw[hc]at lC;rw[lC]at q;cases q
     ·rw[lC]at hc;cases hc) (fun _ r=>r) fun _ _ r=>r
    exact I3.call' (ch:=fp) I6.os ⟨fun b o e n hb hx=>PySem.W.hideAll_get _ (base.keep b o e n hb hx) (ne e),fun b o e n hb hx=>by
      obtain⟨sl,q⟩:=base.slot b o e n hb hx
      exact⟨sl,PySem.W.hideAll_get _ q (ne e)⟩,base.free,fun b o e hx=>by
      obtain⟨o',q⟩:=base.there b o e hx
      exact⟨o',PySem.W.hideAll_get _ q (ne e)⟩,base.tups,base.frzs,base.tbls⟩ hk I6.bare fch
   ·have e0:=PySem.W.of_hideAll _ e
    have hb':b∉[ce.locals]:=fun hm=>by rw[PySem.W.hideAll_none _ hm]at e;cases e
    exact PySem.W.hideAll_get _ (nb b o e0 hb) hb'
   ·have e0:=PySem.W.of_hideAll _ e
    have hb':b≠ce.locals:=fun z=>by rw[z,PySem.W.hideAll_none [ce.locals] List.mem_cons_self]at e;cases e
    obtain⟨sl,q⟩:=(up.trans up7) b o e0 hnf
    have q8:h8.get? b=some { o with slots:=sl }:=(sb.2 b hb').trans q
    obtain⟨sl2,q9⟩:=up9 b { o with slots:=sl } q8 hnf
    exact⟨sl2,q9⟩
  first
   | exact wpAny_bind (wpAny_pure (wpAny_bind fin))
   | exact wpAny_bind fin
 have loop:codeAny (model X.prog X.w) X.A (.compLoop (.ListComp elt [⟨tg,iter,ifs,0⟩] scope pos) 0 (.ref it) (.ref D) ce) (dU (model X.prog X.w) X.A X.xe Qf (.ref D) ce) s4:=by
  refine compLoop_any (fun n s'=>∃ i H',Inv (X.blk s3 H3 scope ce fp) [] (wipe σ (own.map (·.2))) H' s'∧tn i s'.heap∧(∀ b∈fp,H' b=none)∧Wt i n H') ?_ m0 ⟨0,H3,I4,st4,nfp,w0⟩
  rintro n s5 ⟨i,H5,I5,st5,n5,w5⟩
  rcases turn i n H5 w5 with ⟨stop,qq⟩ | ⟨go,Nx,hNx,aL⟩
  ·have td:=T.done (X.blk s3 H3 scope ce fp) rfl rfl rfl hc i [] s5 _ H5 (fun _ _=>False) I5 (stat I5 n5) st5 stop
   refine thnF td fun r s6 ⟨hr,I6⟩=>?_
   subst hr
   have I7:Inv X pins σ H5 s6:=I3.call' (ch:=fp) I6.os I6.base I6.hok I6.bare fch
   have nC:H5 s3.heap.objs.size=none:=by
    have z:H5 ce.locals=none:=I6.free
    rw[cL]at z
    exact z
   obtain⟨m,hn,_⟩:=I6.loc
   have hn:s6.heap.Ns ce.locals m:=hn
   exact⟨m,hn,hRR D ce.locals s6 m H5 I7 qq hn (by rw[cL];exact I3.fpOk (Nat.le_refl _) nC)⟩
  ·have ti:=T.item (X.blk s3 H3 scope ce fp) rfl rfl rfl hc i [] s5 _ H5 (fun _ _=>False) I5 (stat I5 n5) st5 go
   refine thnF ti fun r s6 ⟨u,hr,h6⟩=>?_
   subst hr
   refine thnF h6 fun _ s7 ⟨x,H7,I7,r7,y7,st7,n7⟩=>?_
   have I7':=I7.pinned (stat I7 n7) (T.obj _ _ st7)
   refine thnF (pg.run _ s7 _ H7 x u _ I7' r7 (aL x H7 y7)) fun _ s8 ⟨σ8,H8,I8,hw8,q8⟩=>?_
   refine thnF (pt.run _ s8 σ8 H8 _ I8 q8) fun b s9 ⟨H9,I9,q9⟩=>?_
   have fin:∀ {s':Shared} {H':Hp},Inv (X.blk s3 H3 scope ce fp) ([]++pinsAt fp s7.heap) σ8 H' s'→Nx H'→∃ m,m < n∧∃ i H',Inv (X.blk s3 H3 scope ce fp) [] (wipe σ (own.map (·.2))) H' s'∧tn i s'.heap∧(∀ b∈fp,H' b=none)∧Wt i m H':=fun {s' H'} I' nx=>by
    obtain⟨m',hm,w'⟩:=hNx H' nx
    have pin':∀ b∈fp,∀ o,s7.heap.get? b=some o→s'.heap.get? b=some o∧H' b=none:=fun b hb o e=>
     let z:=I'.pin (b,o) (List.mem_append_right _ (List.mem_append_right _ (mem_pinsAt hb e)))
     ⟨z.1,z.2.1⟩
    have hl:(wipe σ (own.map (·.2))).length=σ8.length:=by rw[← hw8,wipe_length]
    refine⟨m',hm,i + 1,H',(I'.unpinned (pins:=[])).weak hl (fun j v e=>?_),T.keep _ _ _ st7 fun b hb o e=>(pin' b hb o e).1,fun b hb=>?_,w'⟩
    ·rw[← hw8]at e
     exact (wipe_some e).1
    ·obtain⟨o,e,_⟩:=T.obj _ _ st7 b hb
     exact (pin' b hb o e).2
   cases b with
   | false=>
    simp only[Bool.false_eq_true,if_false]at q9 ⊢
    exact fin I9 q9
   | true=>
    simp only[if_true]at q9 ⊢
    have pe':=pe xeb (WE W σ) fun σ' pins' H' s' e' s'' I' c'=>⟨pins',σ',H',s',I'.wish _,c'⟩
    refine wpAny_mono (pe'.run _ s9 σ8 H9 _ (I9.wish _) q9) (fun z rO ⟨yv,H10,I10,r10,acc,hD10,hz10,nx⟩=>?_) fun e' s'' x=>airX e' s'' x
    exact app_ok (X:=X.blk s3 H3 scope ce fp) (I10.wish _) hD10 hz10 r10 fun s11 I11=>fin I11 nx
 exact codeAny_compStart_list loop (T.self X.A 0 _ _ _ st4 loop)
theorem wa {elt tg iter:Expr} {ifs:List Expr} {scope:Scope} {own:List (Str×Nat)} {pos:Pos} {wi:TI} {g:TG} {tt:TT} {te:XK→TE} (hst:X.stack=X.env :: X.outer) (hfr:X.env.frame=some X.env.locals) (tk:L2N.Takes X W)
  (hc:X.calm=true) (hN:X.N.Nodup) (hi:PI X tg iter wi) (ok:BlkOk X.N X.env.scope scope own)
  (hg:∀ (s:Shared) (H:Hp) (C:Addr) (cl:List (Str×Addr)) (fp:List Addr),PG (X.blk s H scope (compEnvC scope cl C X.env) fp) tg g) (ht:∀ (s:Shared) (H:Hp) (C:Addr) (cl:List (Str×Addr)) (fp:List Addr),PTs (X.blk s H scope (compEnvC scope cl C X.env) fp) ifs tt)
  (he:∀ (s:Shared) (H:Hp) (C:Addr) (cl:List (Str×Addr)) (fp:List Addr) (xe:Value→Shared→Prop) (E:XK),(∀ σ,PassesAt (L2N.CX X.prog X.w) ((X.blk s H scope (compEnvC scope cl C X.env) fp).wish xe) σ E)→PE ((X.blk s H scope (compEnvC scope cl C X.env) fp).wish xe) elt (te E)) (hs:∀ x,foldedSetIterable iter X.env x=pure x):
  PE X (.ListComp elt [⟨tg,iter,ifs,0⟩] scope pos) (fun σ=>tLc wi g tt (te (WE W σ)) (own.map (·.2)) σ):=by
 refine⟨fun pins s σ H Q I h=>?_⟩
 rw[eval_ListComp]
 refine pW hst hfr tk hc hN I hi ok hg ht he hs h fun D C s' m H' I' q hn f h'' sb=>?_
 obtain⟨f0,f1,f2,f3,f4,f5⟩:=f
 exact⟨.ref D,H',I'.turned (t':=s'.toks) (fun b o hb e=>(sb.2 b hb).trans e) f0 f1 f3 f4 f5,rfl,q⟩
abbrev kj (g:Ft) (fc:Fc) (fr:Env→Mm→Option aP) (env:Env):D→Mm→Option aP:=fun x h=>match g x env h with
 | some (env2,h2)=>(match fc env2 h2 with
  | some (true,h3)=>fr env2 h3
  | _=>none)
 | none=>none
abbrev jZ (own:List Nat) (fi:Fi) (g:Ft) (fc:Fc) (fe:Fe) (fr:Env→Mm→Option aP):Env→Mm→Option aP:=fun env h=>match fi env h with
 | some (xs,w,h1)=>bif Nat.ble xs.length most then hJ (fun h=>stay h w) (fO g fc fe (aI env own)) (kj g fc fr (aI env own)) xs h1 else none
 | none=>none
theorem pO {Wd0:Wd} {own ks:List Nat} {fi:Fi} {g:Ft} {fc:Fc} {fe:Fe} {fr:Env→Mm→Option aP} (hks:∀ i∈ks,i∈own) {σ H Q} {Ex:XK} (hw:rE Wd0 (jZ own fi g fc fe fr) (fun _=>Ex) σ H Q):
  tLc (tI Wd0 fi) (tT Wd0 ks g) (tC Wd0 fc) (fun σ H Q=>tE Wd0 fe σ H Q∨rE Wd0 fr (fun _=>Ex) σ H Q) own σ H Q:=by
 obtain⟨env,S,ρ,h,cc,q,h',re,R,hf,wq⟩:=hw
 unfold jZ at hf
 try dsimp only at hf
 split at hf
 rotate_left
 ·cases hf
 rename_i xs w h1 ea
 obtain⟨hz,ec⟩:=aa hf
 have hz:=aK hz
 refine⟨env,S,ρ,h,xs,w,h1,re,R,ea,fun S1 ρ1 H1 J g1 R1 sn Dn hD=>?_⟩
 obtain⟨ns1,nl1⟩:=dY R1 hD
 let Wit:Nat→HH→Prop:=fun i H2=>∃ S2 ρ2 h2 acc,Go S1 ρ1 h1 H1 S2 ρ2 h2 H2∧RH Wd0 H2 S2 ρ2 h2∧H2 Dn=some (.lst acc)∧acc.length≤i∧¬ S2 Dn∧¬ bo ρ2 h2 Dn ∧
  hJ (fun h=>stay h w) (fO g fc fe (aI env own)) (kj g fc fr (aI env own)) (xs.drop i) h2=some (cc,q,h')
 refine⟨fun i m H2=>m=xs.length - i∧i≤xs.length∧Wit i H2,⟨xs.length,rfl,Nat.zero_le _,S1,ρ1,h1,[],Go.upd .refl hD,R1.fo ns1 nl1,upd_same,Nat.le_refl _,ns1,nl1,ec⟩,?_⟩
 rintro i m H2 ⟨rfl,hi,S2,ρ2,h2,acc,g2,R2,eD,hl,nsD,nlD,ev⟩
 by_cases hlt:i < xs.length
 ·rw[bM hlt]at ev
  simp only[hJ]at ev
  obtain⟨st,ev⟩:=aa ev
  obtain⟨_,sn2⟩:=sn i S2 ρ2 h2 H2 (g2.w R1) R2 st
  obtain⟨go,yl⟩:=sn2 xs[i] (by simp[hlt])
  refine .inr ⟨go,Wit (i + 1),fun H' w'=>⟨xs.length - (i + 1),by omega,rfl,hlt,w'⟩,fun v H3 y=>?_⟩
  obtain⟨S3,g3,R3,r3⟩:=yl v H3 y
  obtain⟨eD3,nsD3,nlD3⟩:=g3.foreign eD nsD nlD
  have g13:=g2.trans g3
  have re3:RE Wd0 H3 S3 ρ2 env σ:=(re.go g1 R).go g13 R1
  split at ev
  ·rename_i o h3 et
   simp only[fO]at et
   split at et
   rotate_left
   ·cases et
   rename_i env2 h4 eg
   refine⟨aI env own,S3,ρ2,h2,xs[i],env2,h4,re3.wipe own,R3,r3,eg,fun S4 ρ4 H4 σ4 g4 R4 re4 w4=>⟨by rw[w4 own hks,dS],?_⟩⟩
   split at et
   ·rename_i h5 ef
    split at et
    rotate_left
    ·cases et
    rename_i y' h6 eg2
    cases et
    refine⟨env2,S4,ρ4,h4,true,h5,re4,R4,ef,fun S5 ρ5 H5 g5 R5=>?_⟩
    show ite _ _ _
    rw[if_pos rfl]
    refine .inl ⟨env2,S5,ρ5,h5,y',_,re4.go g5 R4,R5,eg2,fun S6 ρ6 H6 v6 g6 R6 r6=>?_⟩
    have g36:=(g4.trans g5).trans g6
    obtain⟨eD6,nsD6,nlD6⟩:=g36.foreign eD3 nsD3 nlD3
    exact⟨acc,eD6,by omega,S6,ρ6,_,acc++[v6],(g13.trans g36).upd hD,R6.fo nsD6 nlD6,upd_same,by simp;omega,nsD6,nlD6,ev⟩
   ·rename_i h5 ef
    cases et
    refine⟨env2,S4,ρ4,h4,false,_,re4,R4,ef,fun S5 ρ5 H5 g5 R5=>?_⟩
    show ite _ _ _
    rw[if_neg Bool.false_ne_true]
    have g35:=g4.trans g5
    obtain⟨eD5,nsD5,nlD5⟩:=g35.foreign eD3 nsD3 nlD3
    exact⟨S5,ρ5,_,acc,g13.trans g35,R5,eD5,by omega,nsD5,nlD5,ev⟩
   ·cases et
  ·simp only[kj]at ev
   split at ev
   rotate_left
   ·cases ev
   rename_i env2 h4 eg
   split at ev
   rotate_left
   ·cases ev
   rename_i h5 ef
   refine⟨aI env own,S3,ρ2,h2,xs[i],env2,h4,re3.wipe own,R3,r3,eg,fun S4 ρ4 H4 σ4 g4 R4 re4 w4=>⟨by rw[w4 own hks,dS],?_⟩⟩
   refine⟨env2,S4,ρ4,h4,true,h5,re4,R4,ef,fun S5 ρ5 H5 g5 R5=>?_⟩
   show ite _ _ _
   rw[if_pos rfl]
   have g35:=(g4.trans g5)
   exact .inr ⟨env2,S5,ρ5,h5,cc,q,h',re4.go g5 R4,R5,ev,wq.pre (g1.trans (g13.trans g35))⟩
 ·have e:i=xs.length:=by omega
  subst e
  rw[List.drop_length]at ev
  cases ev
theorem wz {Wd0:Wd} {own ks:List Nat} {fi:Fi} {g:Ft} {fc:Fc} {fe:Fe} {fr:Env→Mm→Option aP} {elt tg iter:Expr} {ifs:List Expr} {scope:Scope} {pos:Pos} {ow:List (Str×Nat)} (ho:ow.map (·.2)=own) (hks:∀ i∈ks,i∈own)
  (hst:X.stack=X.env :: X.outer) (hfr:X.env.frame=some X.env.locals) (tk:L2N.Takes X W) (hc:X.calm=true) (hN:X.N.Nodup) (hi:PI X tg iter (tI Wd0 fi)) (ok:BlkOk X.N X.env.scope scope ow)
  (hg:∀ (s:Shared) (H:HH) (C:Addr) (cl:List (Str×Addr)) (fp:List Addr),PG (X.blk s H scope (compEnvC scope cl C X.env) fp) tg (tT Wd0 ks g)) (ht:∀ (s:Shared) (H:HH) (C:Addr) (cl:List (Str×Addr)) (fp:List Addr),PTs (X.blk s H scope (compEnvC scope cl C X.env) fp) ifs (tC Wd0 fc))
  (he:∀ (s:Shared) (H:HH) (C:Addr) (cl:List (Str×Addr)) (fp:List Addr),PE (X.blk s H scope (compEnvC scope cl C X.env) fp) elt (tE Wd0 fe))
  (hx:∀ (s:Shared) (H:HH) (C:Addr) (cl:List (Str×Addr)) (fp:List Addr) (xe:Value→Shared→Prop) (E:XK),(∀ σ,PassesAt (L2N.CX X.prog X.w) ((X.blk s H scope (compEnvC scope cl C X.env) fp).wish xe) σ E)→PE ((X.blk s H scope (compEnvC scope cl C X.env) fp).wish xe) elt (rE Wd0 fr fun _=>E)) (pl:aE iter=true):
  PE X (.ListComp elt [⟨tg,iter,ifs,0⟩] scope pos) (rE Wd0 (jZ own fi g fc fe fr) (WE W)):=by
 refine L2.PE.sub (wa (te:=fun E σ H Q=>tE Wd0 fe σ H Q∨rE Wd0 fr (fun _=>E) σ H Q) hst hfr tk hc hN hi ok hg ht (fun s H C cl fp xe E p=>PE.or (L2.PE.nox ?_) (hx s H C cl fp xe E p)) (da pl)) fun σ H Q hw=>?_
 ·exact⟨fun pins s' σ' H' Q' I' h'=>wpAny_mono ((he s H C cl fp).run pins s' σ' H' Q' (I'.wish _) h') (fun _ _ ⟨v,H',I',r,q⟩=>⟨v,H',I'.wish _,r,q⟩) fun _ _ z=>z⟩
 ·subst ho
  exact pO hks (Ex:=WE W σ) (by obtain⟨env,S,ρ,h,cc,q,h',re,R,hf,wq⟩:=hw;exact⟨env,S,ρ,h,cc,q,h',re,R,hf,wq⟩)
end
open L2 (upd upd_same upd_ne ne_of ne_of_none Cx VK Inv RelV PE PA TE TA CX0 Room FnOk Gl Binds PK)
open L2 (upd upd_same upd_ne Cx VK Inv RelV HOk ObjOk PE PS PSs Ends TS Loc Vis FpOk pinsAt mem_pinsAt thn)
structure FS where
 nm:Str
 ps:List Str
 top:Bool
 dv:List Int:=[]
structure SI where
 fi:Nat→Option FS
 gi:Nat→Option FS
 ri:Nat→Option FS
 cn:Nat→Option Str
 ms:Nat→Str→Option Nat
 free:Str→Bool
 con:Str→Option D
 rep:Bool
 kw:Nat→Nat×List Str×List Nat→Bool
 di:Nat→Option FS:=fun _=>none
 nc:Nat→Bool:=fun _=>false
 sti:Nat→Bool:=fun _=>false
 xc:Nat→Option Str:=fun _=>none
 xi:Nat→Option Str:=fun _=>none
 xn:Nat→Option Str:=fun _=>none
 xq:Str→Bool:=fun _=>false
 tr:Bool:=true
def xG:Str:="__debug__"
def zS:Str:="__classdict__"
def i7 (x:Str):Bool:=!(x == xG)&&!(x == zS)
def dZ (sc:Scope) (x:Str):Bool:=(match sc.names.lookup x with | some .globalImplicit=>true | _=>false)&&i7 x
def eP (sc:Scope) (x:Str):Bool:=(match sc.names.lookup x with | some .local=>true | some .cell=>true | some .free=>true | _=>false)&&i7 x
def pJ (sc:Scope) (x:Str):Bool:=match sc.names.lookup x with | some .local=>true | some .cell=>true | _=>false
def qv (sc:Scope) (fb:Str→Bool) (x:Str):Bool:=fb x||(match sc.names.lookup x with | some .local=>true | _=>false)
def dJ (N:List Str) (i:Nat) (x:Str):Bool:=match N[i]? with | some y=>y == x | none=>false
def c6 (N:List Str) (own:List Nat):List (Str×Nat):=own.map fun i=>(N.getD i xG,i)
mutual
def vT:T→List Nat
 | .var i=>[i]
 | .tup ts=>uZ ts
 | .sub _ _=>[]
 | .fld _ _=>[]
def uZ:Ts→List Nat
 | .nil=>[]
 | .cons t r=>vT t++uZ r
end
def mD:E→Bool
 | .cmp _ _ _=>true
 | .chn _ _ _ _ _=>true
 | .sin _ _ _ _ _ _=>true
 | .seq _ _ _ _ _=>true
 | .deq _ _=>true
 | .tdq _ _ _=>true
 | _=>false
section
variable (I:SI)
mutual
def ac:E→List Str→Scope→(Str→Bool)→Expr→Bool
 | .var i,N,sc,fb,x=>match x with
  | .Name y _=>dJ N i y&&eP sc y
  | _=>false
 | .non,N,sc,fb,x=>false
 | .bl b,N,sc,fb,x=>match x with
  | .Constant (.bool c) _ _=>c == b
  | _=>false
 | .int i,N,sc,fb,x=>match x with
  | .Constant (.int j) _ _=>decide (j=i)
  | _=>false
 | .str s,N,sc,fb,x=>match x with
  | .Constant (.str t) _ _=>t == s
  | _=>false
 | .glo y d,N,sc,fb,x=>match x with
  | .Name z _=>z == y&&dZ sc z&&(match I.con z with | some e=>de e d | none=>false)
  | _=>false
 | .bin o z a b,N,sc,fb,x=>match x with
  | .BinOp u op v _=>decide (op=iB o)&&ac a N sc fb u&&ac b N sc fb v
  | _=>false
 | .neg a,N,sc,fb,x=>match x with
  | .UnaryOp .USub u _=>ac a N sc fb u
  | _=>false
 | .cmp o a b,N,sc,fb,x=>match x with
  | .Compare u [op] [v] _=>decide (op=cm o)&&ac a N sc fb u&&ac b N sc fb v&&aE v
  | _=>false
 | .chn o o' a b c,N,sc,fb,x=>match x with
  | .Compare u [op,op'] [v,w] _=>decide (op=cm o)&&decide (op' = cm o')&&ac a N sc fb u&&ac b N sc fb v&&ac c N sc fb w&&aE w
  | _=>false
 | .and es,N,sc,fb,x=>match x with
  | .BoolOp .And l _=>au es N sc fb l&&!l.isEmpty
  | _=>false
 | .or es,N,sc,fb,x=>match x with
  | .BoolOp .Or l _=>au es N sc fb l&&!l.isEmpty
  | _=>false
 | .not c,N,sc,fb,x=>match c,x with
  | .of e,.UnaryOp .Not u _=>ac e N sc fb u
  | _,_=>false
 | .ite c a b,N,sc,fb,x=>match x with
  | .IfExp t u v _=>cU c N sc fb t&&ac a N sc fb u&&ac b N sc fb v
  | _=>false
 | .tup es,N,sc,fb,x=>match x with
  | .Tuple l _ _=>au es N sc fb l
  | _=>false
 | .lst z es,N,sc,fb,x=>match x with
  | .List l _=>au es N sc fb l
  | _=>false
 | .dic z t ks,N,sc,fb,x=>match x with
  | .Dict l m _=>km ks N sc fb l m&&Nat.ble l.length 15
  | _=>false
 | .fld o f,N,sc,fb,x=>match x with
  | .Attribute u g _=>g == f&&ac o N sc fb u&&aE u
  | _=>false
 | .idx o i,N,sc,fb,x=>match x with
  | .Subscript u v _=>ac o N sc fb u&&ac i N sc fb v&&aE v
  | _=>false
 | .sl z o lo hi,N,sc,fb,x=>match x with
  | .Subscript u (.Slice l m none _) _=>ac o N sc fb u&&jR lo N sc fb l&&jR hi N sc fb m
  | _=>false
 | .call m f es,N,sc,fb,x=>match x with
  | .Call (.Name y _) l [] _=>(match I.fi f with | some i=>i.nm == y&&i.top | none=>I.rep&&!l.isEmpty&&(match I.ri f with | some i=>i.nm == y | none=>false))&&dZ sc y&&au es N sc fb l
  | _=>false
 | .callV m i fs es,N,sc,fb,x=>false
 | .meth m c f nm o es,N,sc,fb,x=>match x with
  | .Call (.Attribute u g p) l [] q=>g == nm&&(match I.ms c nm with | some f'=>Nat.beq f' f | none=>false)&&(I.fi f).isSome&&ac o N sc fb u&&aE u&&au es N sc fb l&&Nat.ble l.length 28&&(p.endLine == q.line)
  | _=>false
 | .methS c f nm o es,N,sc,fb,x=>false
 | .make m c es,N,sc,fb,x=>match x with
  | .Call (.Name y _) l [] _=>(match I.cn c with | some z=>z == y | none=>false)&&dZ sc y&&au es N sc fb l
  | _=>false
 | .blt b z es,N,sc,fb,x=>match x with
  | .Call (.Name y _) (u :: l) [] _=>(match b with | .repr=>I.rep | _=>true)&&y == kq b&&I.free y&&dZ sc y&&au es N sc fb (u :: l)
  | _=>false
 | .bm b o es,N,sc,fb,x=>match x with
  | .Call (.Attribute u g p) (v :: l) [] q=>g == mo b&&gO b&&ac o N sc fb u&&aE u&&au es N sc fb (v :: l)&&Nat.ble (v :: l).length 28&&(p.endLine == q.line)
  | _=>false
 | .isi e t,N,sc,fb,x=>match x with
  | .Call (.Name y _) [u,.Name z _] [] _=>y == "isinstance"&&z == Str.ofString (cN t)&&I.free y&&I.free z&&dZ sc y&&dZ sc z&&ac e N sc fb u&&aE u
  | _=>false
 | .isiC e t cs,N,sc,fb,x=>false
 | .isi2 e ts,N,sc,fb,x=>false
 | .rev z e,N,sc,fb,x=>match x with
  | .Subscript u (.Slice none none (some (.UnaryOp .USub (.Constant (.int 1) _ _) _)) _) _=>ac e N sc fb u
  | _=>false
 | .nvr,N,sc,fb,x=>true
 | .sidx m c f o i,N,sc,fb,x=>match x with
  | .Subscript u v _=>(match I.ms c "__getitem__" with | some f'=>Nat.beq f' f | none=>false)&&(I.fi f).isSome&&ac o N sc fb u&&ac i N sc fb v&&aE v
  | _=>false
 | .sin neg m c f a o,N,sc,fb,x=>match x with
  | .Compare u [op] [v] _=>decide (op=bif neg then .NotIn else .In)&&(match I.ms c "__contains__" with | some f'=>Nat.beq f' f | none=>false)&&(I.fi f).isSome&&ac a N sc fb u&&ac o N sc fb v&&aE v
  | _=>false
 | .seq m c f a b,N,sc,fb,x=>false
 | .callK m f ks pm es,N,sc,fb,x=>false
 | .methK m c f nm ks pm o es,N,sc,fb,x=>false
 | .isiO e c,N,sc,fb,x=>false
 | .deq a b,N,sc,fb,x=>false
 | .tdq ng a b,N,sc,fb,x=>false
 | .srtI z e,N,sc,fb,x=>false
 | .bm0 b o,N,sc,fb,x=>false
 | .fst es,N,sc,fb,x=>false
 | .fmt e,N,sc,fb,x=>false
 | .maxD e d,N,sc,fb,x=>false
 | .lstR e,N,sc,fb,x=>false
 | .srtS z e,N,sc,fb,x=>false
 | .callD m f es is,N,sc,fb,x=>false
 | .callM m f es ks pm kes,N,sc,fb,x=>false
 | .isiN e c,N,sc,fb,x=>false
 | .comp z own e g it cs,N,sc,fb,x=>match x with
  | .ListComp elt [⟨tg,iter,ifs,0⟩] scope _=>L2.blkC N sc scope (c6 N own)&&eV it N sc fb iter tg&&aE iter&&bv g N (L2.relS scope sc) (fun x=>scope.names.lookup x == some .cell) tg &&
    iJ cs N (L2.relS scope sc) (fun x=>scope.names.lookup x == some .cell) ifs&&ac e N (L2.relS scope sc) (fun x=>scope.names.lookup x == some .cell) elt&&(vT g).all fun i=>own.contains i
  | _=>false
 | .cmpD z own e g it cs,N,sc,fb,x=>false
 | .lstG z c f nm o,N,sc,fb,x=>false
 | .comp2 z own e g it cs vs1 g1 it1 cs1,N,sc,fb,x=>false
def cU:C→List Str→Scope→(Str→Bool)→Expr→Bool
 | .and cs,N,sc,fb,x=>match x with
  | .BoolOp .And l _=>cS cs N sc fb l&&!l.isEmpty
  | _=>false
 | .or cs,N,sc,fb,x=>match x with
  | .BoolOp .Or l _=>cS cs N sc fb l&&!l.isEmpty
  | _=>false
 | .not c,N,sc,fb,x=>match x with
  | .UnaryOp .Not u _=>cU c N sc fb u
  | _=>false
 | .of e,N,sc,fb,x=>ac e N sc fb x&&(mD e||rg x)
def cS:Cs→List Str→Scope→(Str→Bool)→List Expr→Bool
 | .nil,N,sc,fb,l=>match l with
  | []=>true
  | _=>false
 | .cons c r,N,sc,fb,l=>match l with
  | x :: l=>cU c N sc fb x&&cS r N sc fb l
  | []=>false
def iJ:Cs→List Str→Scope→(Str→Bool)→List Expr→Bool
 | .nil,N,sc,fb,l=>match l with
  | []=>true
  | _=>false
 | .cons c r,N,sc,fb,l=>match l with
  | [x]=>cU c N sc fb x&&(match r with | .nil=>true | _=>false)
  | _=>false
def au:Es→List Str→Scope→(Str→Bool)→List Expr→Bool
 | .nil,N,sc,fb,l=>match l with
  | []=>true
  | _=>false
 | .cons e r,N,sc,fb,l=>match l with
  | x :: l=>ac e N sc fb x&&aE x&&au r N sc fb l
  | []=>false
def jw:Es→List Str→Scope→(Str→Bool)→List Keyword→Bool
 | .nil,N,sc,fb,l=>match l with
  | []=>true
  | _=>false
 | .cons e r,N,sc,fb,l=>match l with
  | ⟨some _,x,_⟩ :: l=>ac e N sc fb x&&jw r N sc fb l
  | _=>false
def jR:Es→List Str→Scope→(Str→Bool)→Option Expr→Bool
 | .nil,N,sc,fb,l=>match l with
  | none=>true
  | _=>false
 | .cons e r,N,sc,fb,l=>match l with
  | some x=>ac e N sc fb x
  | none=>false
def km:Ks→List Str→Scope→(Str→Bool)→List (Option Expr)→List Expr→Bool
 | .nil,N,sc,fb,l,m=>match l,m with
  | [],[]=>true
  | _,_=>false
 | .cons k v r,N,sc,fb,l,m=>match l,m with
  | some x :: l,y :: m=>ac k N sc fb x&&ac v N sc fb y&&km r N sc fb l m
  | _,_=>false
def bv:T→List Str→Scope→(Str→Bool)→Expr→Bool
 | .var i,N,sc,fb,x=>match x with
  | .Name y _=>dJ N i y&&pJ sc y&&qv sc fb y
  | _=>false
 | .tup ts,N,sc,fb,x=>match x with
  | .Tuple l _ _=>cR ts N sc fb l
  | _=>false
 | .sub o i,N,sc,fb,x=>match x with
  | .Subscript u v _=>ac o N sc fb u&&ac i N sc fb v&&aE v
  | _=>false
 | .fld o f,N,sc,fb,x=>match x with
  | .Attribute u g _=>g == f&&ac o N sc fb u
  | _=>false
def cR:Ts→List Str→Scope→(Str→Bool)→List Expr→Bool
 | .nil,N,sc,fb,l=>match l with
  | []=>true
  | _=>false
 | .cons t r,N,sc,fb,l=>match l with
  | x :: l=>bv t N sc fb x&&aE x&&cR r N sc fb l
  | []=>false
def eV:It→List Str→Scope→(Str→Bool)→Expr→Expr→Bool
 | .of e,N,sc,fb,x,tg=>ac e N sc fb x
 | .rng es,N,sc,fb,x,tg=>match x with
  | .Call (.Name y _) l [] _=>y == "range"&&I.free y&&dZ sc y&&au es N sc fb l
  | _=>false
 | .enm e,N,sc,fb,x,tg=>match x,tg with
  | .Call (.Name y _) [u] [] _,.Tuple _ _ _=>y == "enumerate"&&I.free y&&dZ sc y&&ac e N sc fb u&&aE u
  | _,_=>false
 | .zip a b,N,sc,fb,x,tg=>match x,tg with
  | .Call (.Name y _) [u,v] [] _,.Tuple _ _ _=>y == "zip"&&I.free y&&dZ sc y&&ac a N sc fb u&&ac b N sc fb v&&aE u&&aE v
  | _,_=>false
end
def rJ (tg v:Expr):Bool:=jh v||(match tg with | .Name _ _=>false | _=>true)
def iZ (sc:Scope) (y:Str):Bool:=match sc.names.lookup y with | some .local=>false | _=>true
def nj (sc:Scope) (tg:Expr):Bool:=match tg with
 | .Tuple [.Attribute _ _ _,.Attribute _ _ _] _ _=>true
 | .Tuple [.Name x _,.Name y _] _ _=>(match sc.names.lookup x with | some .local=>false | _=>true)||(match sc.names.lookup y with | some .local=>false | _=>true)
 | _=>false
def mV:Expr→Expr→Bool
 | .Tuple _ _ _,.Tuple vs _ _=>vs.all (foldedForSure 8)
 | _,_=>false
def ka (sc:Scope) (x y:Str) (px py:Pos) (a b:Expr):Bool:=
 (match sc.names.lookup x with | some .local=>true | _=>false)&&(match sc.names.lookup y with | some .local=>true | _=>false)&&(px.line == py.line)&&!(x == y) &&
 !([a,b].all (foldedForSure 8))&&!([a,b].all (constantsAlone 8))
mutual
def aA:S→List Str→Scope→Stmt→Bool
 | .asg g e,N,sc,x=>match x with
  | .Assign [tg] v p=>(match g,tg with
   | .fld o f,.Attribute u g' _=>g' == f&&ac I o N sc (fun _=>true) u&&ac I e N sc (fun _=>true) v
   | .var i,.Name y py=>(match v with
    | .ListComp _ _ scope pv=>bif iZ sc y then ac I e N sc (fun _=>true) v&&bv I g N sc (fun _=>true) tg else (py.line == pv.line)&&dJ N i y&&(match sc.names.lookup y with | some .local=>true | _=>false)&&!(scope.names.any fun (n,k)=>n == y&&(k == .local||k == .cell))&&ac I e N sc (fun _=>true) v
    | _=>jh v&&ac I e N sc (fun _=>true) v&&bv I g N sc (fun _=>true) tg)
   | _,_=>rJ tg v&&(vH tg||uL v||nj sc tg||mV tg v)&&aE tg&&ac I e N sc (fun _=>true) v&&bv I g N sc (fun _=>true) tg)
  | _=>false
 | .par i j a b,N,sc,x=>match x with
  | .Assign [.Tuple [.Name y py,.Name z pz] _ _] (.Tuple [u,v] _ _) _=>dJ N i y&&dJ N j z&&!(Nat.beq i j)&&ka sc y z py pz u v&&ac I a N sc (fun _=>true) u&&ac I b N sc (fun _=>true) v&&aE u&&aE v
  | _=>false
 | .aug i o e,N,sc,x=>false
 | .augS o i p e,N,sc,x=>match x with
  | .AugAssign (.Subscript u v _) op w _=>decide (op=iB p)&&ac I o N sc (fun _=>true) u&&ac I i N sc (fun _=>true) v&&aE v&&ac I e N sc (fun _=>true) w
  | _=>false
 | .augL i e,N,sc,x=>false
 | .augF o f p e,N,sc,x=>false
 | .exp e,N,sc,x=>match x with
  | .Expr v _=>ac I e N sc (fun _=>true) v&&jh v
  | _=>false
 | .ret e,N,sc,x=>match x with
  | .Return (some v) _=>ac I e N sc (fun _=>true) v
  | _=>false
 | .retN,N,sc,x=>match x with
  | .Return none _=>true
  | _=>false
 | .iff c a b,N,sc,x=>match x with
  | .If t l m _=>cU I c N sc (fun _=>true) t&&aW a N sc l&&aW b N sc m
  | _=>false
 | .whl c b,N,sc,x=>match x with
  | .While t l [] _=>cU I c N sc (fun _=>true) t&&aW b N sc l
  | _=>false
 | .for_ g it b,N,sc,x=>match x with
  | .For tg iter l [] _=>eV I it N sc (fun _=>true) iter tg&&aE iter&&bv I g N sc (fun _=>true) tg&&aW b N sc l
  | _=>false
 | .pass,N,sc,x=>false
 | .brk,N,sc,x=>false
 | .cnt,N,sc,x=>match x with
  | .Continue _=>true
  | _=>false
 | .nvr,_,_,_=>true
 | .par3 i j l a b c,N,sc,x=>false
 | .forG c f nm o g b,N,sc,x=>match x with
  | .For tg (.Call (.Attribute u m p) [] [] q) l [] _=>m == nm&&(match I.ms c nm with | some f'=>Nat.beq f' f | none=>false)&&(match I.gi f with | some i=>Nat.beq i.ps.length 1 | none=>false) &&
   ac I o N sc (fun _=>true) u&&aE u&&bv I g N sc (fun _=>true) tg&&aW b N sc l&&(p.endLine == q.line)&&I.tr
  | _=>false
 | .forK g e b,N,sc,x=>match x with
  | .For tg iter l [] _=>ac I e N sc (fun _=>true) iter&&aE iter&&bv I g N sc (fun _=>true) tg&&aW b N sc l
  | _=>false
 | .repS i j c z,N,sc,x=>false
 | .forD g e b,N,sc,x=>false
 | .setDc i z t own k v g it cs,N,sc,x=>match x with
  | .Assign [.Name y py] (.DictComp kx vx [⟨tg,iter,ifs,0⟩] scope pv) _=>(py.line == pv.line)&&dJ N i y&&(match sc.names.lookup y with | some .local=>true | _=>false)&&!(scope.names.any fun (n,k)=>n == y&&(k == .local||k == .cell)) &&
   L2.blkC N sc scope (c6 N own)&&eV I it N sc (fun _=>true) iter tg&&aE iter&&bv I g N (L2.relS scope sc) (fun x=>scope.names.lookup x == some .cell) tg &&
    iJ I cs N (L2.relS scope sc) (fun x=>scope.names.lookup x == some .cell) ifs&&ac I k N (L2.relS scope sc) (fun x=>scope.names.lookup x == some .cell) kx&&ac I v N (L2.relS scope sc) (fun x=>scope.names.lookup x == some .cell) vx&&(vT g).all fun i=>own.contains i
  | _=>false
 | .setDk i z t own k v g e cs,N,sc,x=>match x with
  | .Assign [.Name y py] (.DictComp kx vx [⟨tg,iter,ifs,0⟩] scope pv) _=>(py.line == pv.line)&&dJ N i y&&(match sc.names.lookup y with | some .local=>true | _=>false)&&!(scope.names.any fun (n,k)=>n == y&&(k == .local||k == .cell)) &&
   L2.blkC N sc scope (c6 N own)&&ac I e N sc (fun _=>true) iter&&aE iter&&bv I g N (L2.relS scope sc) (fun x=>scope.names.lookup x == some .cell) tg &&
    iJ I cs N (L2.relS scope sc) (fun x=>scope.names.lookup x == some .cell) ifs&&ac I k N (L2.relS scope sc) (fun x=>scope.names.lookup x == some .cell) kx&&ac I v N (L2.relS scope sc) (fun x=>scope.names.lookup x == some .cell) vx&&(vT g).all fun i=>own.contains i
  | _=>false
 | .tryT b,N,sc,x=>false
 | .rai c m,N,sc,x=>false
 | .tryF e c i f,N,sc,x=>false
 | .raiV c e,N,sc,x=>false
 | .tryR e c o k i,N,sc,x=>false
 | .raiC c es,N,sc,x=>false
 | .tryC r e hs,N,sc,x=>false
def aW:Ss→List Str→Scope→List Stmt→Bool
 | .nil,N,sc,l=>match l with
  | []=>true
  | _=>false
 | .cons s r,N,sc,l=>match l with
  | x :: l=>aA s N sc x&&aW r N sc l
  | []=>false
 | .iso r,N,sc,l=>aW r N sc l
end
mutual
def dF:G→List Str→Scope→Stmt→Bool
 | .s s,N,sc,x=>aA I s N sc x
 | .yld e,N,sc,x=>match x with
  | .Expr (.Yield (some v) _) _=>ac I e N sc (fun _=>true) v
  | _=>false
 | .iff c a b,N,sc,x=>match x with
  | .If t l m _=>cU I c N sc (fun _=>true) t&&cf a N sc l&&cf b N sc m
  | _=>false
 | .for_ g it b,N,sc,x=>match x with
  | .For tg iter l [] _=>eV I it N sc (fun _=>true) iter tg&&aE iter&&bv I g N sc (fun _=>true) tg&&cf b N sc l&&I.tr
  | _=>false
def cf:Gs→List Str→Scope→List Stmt→Bool
 | .nil,N,sc,l=>match l with
  | []=>true
  | _=>false
 | .cons s r,N,sc,l=>match l with
  | x :: l=>dF s N sc x&&cf r N sc l
  | []=>false
end
end
open L2 (upd upd_same upd_ne ne_of ne_of_none Cx VK XK WX Takes Inv RelV HOk ObjOk PE PA PS PSs PT PI PG TE TA TS Room FnOk Gl Binds Cls Meth PassesAt WE passAt Hp Vals CXT Raises MkP PMk exo exd exo_ok exd_ok exo_at exd_at at_ne exo_own exo_tup exo_frz exo_tbl relO_put within_of RelO Un Ends thn FunD FnScope)
def iY (K:PySem.W.Frag) (mg:Str→Option Value) (b:Str) (initId:String):Prop:=
 (∃ D mc,mg b=some (.ref D)∧PySem.W.readsIn K D mc=true∧PySem.W.specialIn K (.ref D) "__getattribute__" = some (some (.builtin "type.__getattribute__"))∧PySem.W.findCls K (.ref D) mc "__init__" = some (.val (.builtin initId))) ∨
 (mg b=none∧(b == "__name__")=false∧∃ B:String,bootBuiltins b=some (.type B)∧typeOf (.type B)=pure (.type "type")∧Manifest.isStub B=false∧PySem.W.findCls K (.type B) (.type "type") "__init__" = some (.val (.builtin initId)))
section
variable {X:Cx} {C:Addr} {B newId initId:String} {bmB:List Value} {f b sn:Str} {o e:Expr} {p1 p2 p3 p4 p5 p' pos:Pos} {j:Nat} {k:Nat} {m:Str}
theorem nL (T:XiC X.K C B newId initId bmB) (hno:PySem.W.findIn X.K (.ref C) f=some none) (ho:PE X o (L2.tVar 0)) (he:PE X e (L2.tVar j)) (hs:swapsWith e (some (.Attribute o f p')) pos.line X.env=pure false):
  PS X (.Assign [.Attribute o f p'] e pos) (fun D σ H=>∃ a y,σ[0]? = some (some (.ref a))∧σ[j]? = some (some y)∧((H a=some (exo a C none)∧∀ dx,H dx=none→dx≠a→D.nx σ (upd (upd H dx (exd dx [(f,y)])) a (exo a C (some dx)))) ∨
   ∃ dx fs,H a=some (exo a C (some dx))∧H dx=some (exd dx fs)∧fs.length≤900∧D.nx σ (upd H dx (exd dx ((f,y) :: fs))))):=by
 refine⟨fun pins s σ H D I h=>?_⟩
 obtain⟨a,y,e0,ej,q⟩:=h
 refine plainObj_wpAny_Assign_Attribute (thn (he.run pins s σ H (fun v H1=>v=y∧H1=H) I ⟨y,ej,rfl,rfl⟩) fun v s1 ⟨y',H1,I1,r1,ey,eH⟩=>thn (ho.run pins s1 σ H1 (fun v H2=>v = .ref a∧H2=H1) I1 ⟨_,e0,rfl,rfl⟩) fun u s2 ⟨x,H2,I2,r2,ex,eH2⟩=>?_) hs
 subst ey eH ex eH2
 obtain rfl:u=Value.ref a:=r2
 rcases q with ⟨ea,q⟩ | ⟨dx,fs,ea,ed,hl,q⟩
 ·exact u6 T I2 ea hno r1 fun dx s' n ne J=>⟨σ,_,J,q dx n ne⟩
 ·exact vr T I2 ea ed hl hno r1 fun s' J=>⟨σ,_,J,q⟩
theorem qM {pl0:Sem Bool} (hh:PySem.W.handedIn (.builtin initId)=true) (T:XiC X.K C B newId initId bmB) (hb:iY X.K X.mg b initId) (hg:Gl X b) (hdb:(b == ("__debug__":Str))=false) (ho:PE X (.Name sn p3) (L2.tVar 0))
  (ht:eval (.Call (.Attribute (.Name b p1) "__init__" p2) [.Name sn p3,.Constant (.str m) k p4] [] p5) X.env=(do
   let ov ← eval (.Name b p1) X.env
   standAt p2.atName
   let (f,first) ← holding [ov] (getMethod ov "__init__" pl0)
   callWith p5 f first (backTo p5 (starEach [.Name sn p3,.Constant (.str m) k p4] X.env)) (backToKw p5 (keywordEach [] X.env)))):
  PE X (.Call (.Attribute (.Name b p1) "__init__" p2) [.Name sn p3,.Constant (.str m) k p4] [] p5) (fun σ H Q=>∃ a,σ[0]? = some (some (.ref a))∧H a=some (exo a C none)∧Q .non H):=by
 refine⟨fun pins s σ H Q I h=>?_⟩
 obtain⟨a,e0,ea,q⟩:=h
 have pa:PA X [.Name sn p3,.Constant (.str m) k p4] (L2.tCons (L2.tVar 0) (L2.tCons (L2.tC (.str m)) L2.tNil)):=L2.pa_cons ho (L2.pa_cons L2.pe_str L2.pa_nil (by rfl)) (by rfl)
 have fin:∀ t,wpAny (model X.prog X.w) X.A (callWith p5 (Value.builtin initId) [] (backTo p5 (starEach [.Name sn p3,.Constant (.str m) k p4] X.env)) (backToKw p5 (keywordEach [] X.env))) (L2.EP X pins σ Q) X.xe { s with toks:=t }:=fun t=>by
  show wpAny _ _ (callWith p5 (Value.builtin initId) [] (backTo p5 (starEach [.Name sn p3,.Constant (.str m) k p4] X.env)) []) _ _ _
  refine PyProof.Rows.callWith_method1 (thn (pa.run p5 pins _ σ H (fun vs H1=>∃ x y,vs=[x,y]∧x = .ref a∧H1=H) (I.tok _) ⟨_,e0,_,_,rfl,rfl,rfl⟩) fun us s1 ⟨vs,H1,I1,r1,x,y,ev,ex,eH⟩=>?_) (by rfl) (by rfl)
  subst ev ex eH
  cases r1 with
  | @cons _ u0 _ ur ra rw'=>
   obtain rfl:u0=Value.ref a:=ra
   have hlen:ur.length≤sizeLine:=by
    rw[← rw'.length,sizeLine_eq]
    simp
   exact ul T I1 ea hlen fun s' J=>⟨.non,_,J,rfl,q⟩
 rcases hb with ⟨D,mc,hm,hr,hga,hf⟩ | ⟨hm,hnn,Bt,hv,xP,hs,hf⟩
 ·refine PySem.W.methodCall_KW (pl:=pl0) (L2.ld_glob I hg hm ?_ hdb) ht
  exact PySem.W.method_cls I.kIn hga (PySem.W.cls_value I.kIn hr hf hh (fin _))
 ·refine PySem.W.methodCall_KW (pl:=pl0) (L2.ld_blt I hg hm hv ?_ (by intro z;rw[z]at hnn;cases hnn) hdb) ht
  obtain⟨m0,fr⟩:=I.fr
  exact PySem.W.method_type fr I.ok.mod.kin xP hs hf hh (fin _)
end
section
theorem cJ {o:Expr} {m:Str} {apos pos:Pos} {es:List Expr} {env:PySem.Env} (po:aE o=true) (pl:aJ es=true) (few:es.length < 30) (hline:(apos.endLine == pos.line)=true):
  eval (.Call (.Attribute o m apos) es [] pos) env=(do
   let ov ← eval o env
   standAt apos.atName
   let (f,first) ← holding [ov] (getMethod ov m (do return (← importBound o env).getD true))
   callWith pos f first (backTo pos (starEach es env)) (backToKw pos (keywordEach [] env))):=by
 rw[arm_eval_Call,gU po]
 have hform:methodCallForm (es.length + ([]:List Keyword).length) (backTo pos (starEach es env)) (backToKw pos (keywordEach [] env))=true:=by
  unfold methodCallForm
  rw[gW pl]
  simp only[Bool.true_and,Bool.and_eq_true,decide_eq_true_eq]
  exact⟨rfl,by show es.length + 0 + 0 < 30;omega⟩
 have hpos:methodCallPos true o env apos pos=pure pos:=by unfold methodCallPos;simp[hline]
 unfold methodCall
 rw[hform,hpos]
 rfl
end
def fV (N:List Str) (sc:Scope):Nat→List Str→List Stmt→Bool
 | _,[],[]=>true
 | i,f :: r,.Assign [.Attribute (.Name s _) g _] (.Name q _) _ :: l=>dJ N 0 s&&eP sc s&&g == f&&dJ N i q&&eP sc q&&fV N sc (i + 1) r l
 | _,_,_=>false
def lO (N:List Str) (sc:Scope) (b:Str) (fs:List Str):List Stmt→Bool
 | .Expr (.Call (.Attribute (.Name y _) nm ap) [.Name s _,.Constant (.str _) _ _] [] cp) _ :: l=>y == b&&nm == "__init__"&&dZ sc b&&dJ N 0 s&&eP sc s&&ap.endLine == cp.line&&fV N sc 1 fs l
 | _=>false
def dW {α:Type} (fs:List Str) (ws:List α):List (Str×α):=(fs.zip ws).reverse
def rH (C:Addr) (fs:List Str):L2.Sp:=fun vs H Q _=>vs.length=fs.length + 1∧∃ a ws,vs = .ref a :: ws∧H a=some (exo a C none)∧∀ d,H d=none→d≠a→Q .non (upd (upd H d (exd d (dW fs ws))) a (exo a C (some d)))
section
variable {X:Cx} {C:Addr} {B newId initId:String} {bmB:List Value} {N:List Str} {sc:Scope}
theorem wS (eN:X.N=N) {i:Nat} {x:Str} (h:dJ N i x=true):X.N[i]? = some x:=by
 unfold dJ at h
 rw[eN]
 split at h
 ·rename_i y e
  rw[e,beq_iff_eq.mp h]
 ·cases h
theorem uS (es:X.env.scope=sc) {x:Str} (h:eP sc x=true):L2.Vis X.env.scope x∧(x == ("__debug__":Str))=false∧(x == ("__classdict__":Str))=false:=by
 unfold eP at h
 rw[Bool.and_eq_true]at h
 obtain⟨h1,h2⟩:=h
 have h2:(x == ("__debug__":Str))=false∧(x == ("__classdict__":Str))=false:=by
  unfold i7 at h2
  simp only[Bool.and_eq_true,Bool.not_eq_true']at h2
  exact h2
 refine⟨?_,h2⟩
 rw[es]
 split at h1
 ·exact .inl (by assumption)
 ·exact .inr (.inl (by assumption))
 ·exact .inr (.inr (by assumption))
 ·cases h1
theorem gV (eN:X.N=N) (es:X.env.scope=sc) {i:Nat} {x:Str} {p:Pos} (h1:dJ N i x=true) (h2:eP sc x=true):PE X (.Name x p) (L2.tVar i):=by
 obtain⟨v,d1,d2⟩:=uS es h2
 exact L2.pe_var (wS eN h1) v d1 d2
theorem tW {H:Hp} {a d:Addr} {fs gs:List (Str×L2.V)} (hne:d≠a):upd (upd (upd H d (exd d fs)) a (exo a C (some d))) d (exd d gs)=upd (upd H d (exd d gs)) a (exo a C (some d)):=by
 funext b
 by_cases e1:b=d
 ·subst e1
  rw[upd_same,upd_ne hne,upd_same]
 ·rw[upd_ne e1]
  by_cases e2:b=a
  ·subst e2;rw[upd_same,upd_same]
  ·rw[upd_ne e2,upd_ne e2,upd_ne e1,upd_ne e1]
theorem lV (eN:X.N=N) (es:X.env.scope=sc) (T:XiC X.K C B newId initId bmB):∀ (fs:List Str) (i:Nat) (l:List Stmt),(∀ f∈fs,PySem.W.findIn X.K (.ref C) f=some none)→fV N sc i fs l=true →
  PSs X l (fun D σ H=>∃ a d ws done,σ[0]? = some (some (.ref a))∧(∀ j w,ws[j]? = some w→σ[i + j]? = some (some w))∧ws.length=fs.length∧d≠a∧H a=some (exo a C (some d))∧H d=some (exd d done)∧done.length + fs.length≤900∧∃ H0,H=upd (upd H0 d (exd d done)) a (exo a C (some d))∧D.nx σ (upd (upd H0 d (exd d (dW fs ws++done))) a (exo a C (some d))))
 | [],i,[],_,_=>⟨fun pins s σ H D I ⟨a,d,ws,done,e0,ew,hl,hne,ea,ed,hz,H0,eH,q⟩=>by
  have:dW (α:=L2.V) [] ws=[]:=rfl
  rw[this,List.nil_append,← eH]at q
  exact L2.pss_nil.run pins s σ H D I q⟩
 | f :: r,i,st :: l,hno,hc=>by
  obtain⟨s,pa,g,pb,q,pc,pd,rfl⟩:∃ s pa g pb q pc pd,st = .Assign [.Attribute (.Name s pa) g pb] (.Name q pc) pd:=by
   unfold fV at hc
   split at hc
   ·contradiction
   ·rename_i h1 h2
    cases h2
    exact⟨_,_,_,_,_,_,_,rfl⟩
   ·cases hc
  simp only[fV,Bool.and_eq_true,beq_iff_eq]at hc
  obtain⟨⟨⟨⟨⟨c1,c2⟩,rfl⟩,c3⟩,c4⟩,c5⟩:=hc
  have st1:=nL (pos:=pd) (p':=pb) T (hno _ (List.mem_cons_self ..)) (gV (p:=pa) eN es c1 c2) (gV (p:=pc) eN es c3 c4) (by rfl)
  have rest:=lV eN es T r (i + 1) l (fun f hf=>hno f (List.mem_cons_of_mem _ hf)) c5
  refine⟨fun pins s σ H D I ⟨a,d,ws,done,e0,ew,hl,hne,ea,ed,hz,H0,eH,q⟩=>?_⟩
  cases ws with
  | nil=>cases hl
  | cons w ws=>
   simp only[List.length_cons]at hz hl
   refine (L2.pss_cons st1 rest).run pins s σ H D I ?_
   refine⟨a,w,e0,by simpa using ew 0 w rfl,.inr ⟨d,done,ea,ed,by omega,?_⟩⟩
   refine⟨a,d,ws,(g,w) :: done,e0,fun j w' hj=>?_,by omega,hne,by rw[upd_ne (Ne.symm hne)];exact ea,upd_same,by simp only[List.length_cons];omega,H0,by rw[eH];exact tW hne,?_⟩
   ·have:=ew (j + 1) w' (by simpa using hj)
    rw[← this]
    congr 1
    omega
   ·have e:dW (g :: r) (w :: ws)++done=dW r ws++(g,w) :: done:=by unfold dW;simp
    rw[← e]
    exact q
 | [],_,_ :: _,_,hc=>by unfold fV at hc;cases hc
 | _ :: _,_,[],_,hc=>by unfold fV at hc;cases hc
theorem lr {b:Str} {fs:List Str} {l:List Stmt} (eN:X.N=N) (es:X.env.scope=sc) (T:XiC X.K C B newId initId bmB) (hh:PySem.W.handedIn (.builtin initId)=true) (hb:iY X.K X.mg b initId) (hz:fs.length≤900) (hne0:fs≠[]) (hno:∀ f∈fs,PySem.W.findIn X.K (.ref C) f=some none) (hc:lO N sc b fs l=true):
  PSs X l (fun D σ H=>∃ a ws,σ[0]? = some (some (.ref a))∧(∀ j w,ws[j]? = some w→σ[1 + j]? = some (some w))∧ws.length=fs.length∧H a=some (exo a C none)∧∀ d,H d=none→d≠a→D.nx σ (upd (upd H d (exd d (dW fs ws))) a (exo a C (some d)))):=by
 cases fs with
 | nil=>exact absurd rfl hne0
 | cons f r=>
  obtain⟨y,p1,ap,s,p2,m,k,p3,cp,pp,l2,rfl⟩:∃ y p1 ap s p2 m k p3 cp pp l2,l = .Expr (.Call (.Attribute (.Name y p1) "__init__" ap) [.Name s p2,.Constant (.str m) k p3] [] cp) pp :: l2:=by
   unfold lO at hc
   split at hc
   ·simp only[Bool.and_eq_true,beq_iff_eq]at hc
    obtain⟨⟨⟨⟨⟨⟨rfl,rfl⟩,_⟩,_⟩,_⟩,_⟩,_⟩:=hc
    exact⟨_,_,_,_,_,_,_,_,_,_,_,rfl⟩
   ·cases hc
  simp only[lO,Bool.and_eq_true,beq_iff_eq,true_and]at hc
  obtain⟨⟨⟨⟨⟨⟨rfl,_⟩,c1⟩,c2⟩,c3⟩,c4⟩,c5⟩:=hc
  have hg:Gl X y∧(y == ("__debug__":Str))=false:=by
   unfold dZ at c1
   rw[Bool.and_eq_true]at c1
   obtain⟨h1,h2⟩:=c1
   refine⟨?_,?_⟩
   ·show X.env.scope.names.lookup y=_
    rw[es]
    split at h1
    ·assumption
    ·cases h1
   ·unfold i7 at h2
    simp only[Bool.and_eq_true,Bool.not_eq_true']at h2
    exact h2.1
  have v0:=gV (p:=p2) eN es c2 c3
  have e1:=qM (m:=m) (k:=k) (p4:=p3) (p1:=p1) hh T hb hg.1 hg.2 v0 (cJ rfl rfl (by show 2 < 30;omega) (by rw[beq_iff_eq];exact c4))
  have s1:=L2.ps_expr (pos:=pp) e1 (eW rfl)
  cases l2 with
  | nil=>unfold fV at c5;cases c5
  | cons st l3=>
   obtain⟨s',pa,g,pb,q,pc,pd,rfl⟩:∃ s pa g pb q pc pd,st = .Assign [.Attribute (.Name s pa) g pb] (.Name q pc) pd:=by
    unfold fV at c5
    split at c5
    ·contradiction
    ·rename_i h1 h2
     cases h2
     exact⟨_,_,_,_,_,_,_,rfl⟩
    ·cases c5
   simp only[fV,Bool.and_eq_true,beq_iff_eq]at c5
   obtain⟨⟨⟨⟨⟨d1,d2⟩,rfl⟩,d3⟩,d4⟩,d5⟩:=c5
   have st1:=nL (pos:=pd) (p':=pb) T (hno _ (List.mem_cons_self ..)) (gV (p:=pa) eN es d1 d2) (gV (p:=pc) eN es d3 d4) (by rfl)
   have rest:=lV eN es T r (1 + 1) l3 (fun f hf=>hno f (List.mem_cons_of_mem _ hf)) d5
   refine⟨fun pins s σ H D I ⟨a,ws,e0,ew,hl,ea,qd⟩=>?_⟩
   cases ws with
   | nil=>cases hl
   | cons w ws=>
    simp only[List.length_cons]at hz hl
    refine (L2.pss_cons s1 (L2.pss_cons st1 rest)).run pins s σ H D I ?_
    refine⟨a,e0,ea,a,w,e0,by simpa using ew 0 w rfl,.inl ⟨ea,fun d hd hne=>?_⟩⟩
    refine⟨a,d,ws,[(g,w)],e0,fun j w' hj=>?_,by omega,hne,upd_same,by rw[upd_ne hne,upd_same],by simp only[List.length_cons,List.length_nil];omega,H,rfl,?_⟩
    ·have:=ew (j + 1) w' (by simpa using hj)
     rw[← this]
     congr 1
     omega
    ·have e:dW (g :: r) (w :: ws)=dW r ws++[(g,w)]:=by unfold dW;simp
     rw[← e]
     exact qd d hd hne
theorem wQ {W:Wd} {base:Heap} {b x qual:Str} {ps fs:List Str} {params:Arguments} {body:List Stmt} {fI:Addr} {fd:FuncData} (Fd:FunD W.K x qual params body sc [] [] fI fd) (S:FnScope N ps sc) (hps:ps.length=fs.length + 1) (T:XiC W.K C B newId initId bmB) (hh:PySem.W.handedIn (.builtin initId)=true) (hb:iY W.K W.mg b initId)
  (hz:fs.length≤900) (hne0:fs≠[]) (hno:∀ f∈fs,PySem.W.findIn W.K (.ref C) f=some none) (hc:lO N sc b fs body=true):FnOk W.P W.w W.K W.mg base L2.CX0 1 fI fd ps (rH C fs):=by
 refine Fd.ok (k:=0) S (fun vs H Q E q=>by rw[q.1,hps]) fun cdv A outer s H vs Q E hr hsp=>?_
 refine⟨_,lr (X:=L2.cxOf L2.CX0 W.P W.w W.K W.mg base N qual sc fI cdv A outer s H E) rfl rfl T hh hb hz hne0 hno hc,?_⟩
 obtain⟨hl,a,ws,rfl,ea,q⟩:=hsp
 refine⟨a,ws,by simp[L2.start],fun j w hj=>?_,by simpa using hl,ea,q⟩
 obtain⟨hj2,e⟩:=List.getElem?_eq_some_iff.mp hj
 unfold L2.start
 rw[Nat.add_comm 1 j]
 simp[List.getElem?_append,hj2]
 exact e
theorem uK {W:Wd} {base:Heap} {b x qual:Str} {ps fs:List Str} {params:Arguments} {body:List Stmt} {fI:Addr} {fd:FuncData} (Fd:FunD W.K x qual params body sc [] [] fI fd) (S:FnScope N ps sc) (hps:ps.length=fs.length + 1) (T:XiC W.K C B newId initId bmB) (hh:PySem.W.handedIn (.builtin initId)=true) (hb:iY W.K W.mg b initId)
  (hz:fs.length≤900) (hne0:fs≠[]) (hno:∀ f∈fs,PySem.W.findIn W.K (.ref C) f=some none) (hc:lO N sc b fs body=true):L2H.FnH W.P W.w W.K W.mg base L2.CX0 1 fI fd ps (rH C fs):=by
 obtain⟨oc,od,dV,kV,doc,pm,an,cdv,ct,osl,efd,lk,hcd,_,_⟩:=Fd.ex
 rw[efd]at lk ⊢
 refine L2H.fn_ofH (k:=0) lk hcd S (fun vs H Q E q=>by rw[q.1,hps]) fun A outer s H vs Q E p hot hr hsp=>?_
 refine⟨_,lr (X:=L2H.cxH L2.CX0 W.P W.w W.K W.mg base N qual sc fI cdv A outer s H E p) rfl rfl T hh hb hz hne0 hno hc,?_⟩
 obtain⟨hl,a,ws,rfl,ea,q⟩:=hsp
 refine⟨a,ws,by simp[L2.start],fun j w hj=>?_,by simpa using hl,ea,q⟩
 obtain⟨hj2,e⟩:=List.getElem?_eq_some_iff.mp hj
 unfold L2.start
 rw[Nat.add_comm 1 j]
 simp[List.getElem?_append,hj2]
 exact e
end
open L2 (upd upd_same upd_ne ne_of ne_of_none Cx VK OpR SqL SqT Key kV Inv valV putK RelV HOk ObjOk IxR SlR TruR PSet PGet CallR MtR EP PE PT PA PW TE TT TA PO thn CX0 pass0 Room FnOk Gl Binds Cls Meth Mk PG PGs TG TGs PI TI Turn FpOk Loc Vis PTs BlkOk PS PSs Ends TS)
structure Lk where
 fA:Nat→Addr
 fD:Nat→FuncData
 base:Heap
structure XcOk (W:Wd) (c:Nat) (x:Str):Prop where
 mg:W.mg x=some (.ref (W.cA c))
 kp:PySem.W.keepIn W.K (.ref (W.cA c))=true
 exc:∃ B newId initId bmB,ExcBaseFacts B newId initId bmB∧PySem.W.excIn W.K (W.cA c) bmB newId=true
 sub:PySem.W.subIn W.K (.ref (W.cA c)) (.type "BaseException")=some true
 ty:PySem.W.typeIn W.K (.ref (W.cA c))=some (.type "type")
 one:PySem.W.exmOne W.K (.ref (W.cA c)) (.ref (W.cA c))=some true
structure XiOk (W:Wd) (base:Heap) (c:Nat) (x:Str) (fl:List Str):Prop where
 mg:W.mg x=some (.ref (W.cA c))
 xi:∃ B n i bm,XiC W.K (W.cA c) B n i bm
 ini:∃ fI fd ps,PySem.W.findIn W.K (.ref (W.cA c)) "__init__" = some (some (.ref fI))∧PySem.W.typeIn W.K (.ref fI)=some (.type "function")∧FnOk W.P W.w W.K W.mg base CX0 1 fI fd ps (rH (W.cA c) fl)∧Binds W.K fd ps []∧L2H.FnH W.P W.w W.K W.mg base CX0 1 fI fd ps (rH (W.cA c) fl)
 few:fl.length≤900
structure XqC (K:PySem.W.Frag) (C:Addr):Prop where
 hcl:(PySem.W.clsIn K C).isSome=true
 hga:PySem.W.findIn K (.ref C) "__getattribute__" = some (some (.builtin "BaseException.__getattribute__"))
 hgt:PySem.W.findIn K (.ref C) "__getattr__" = some none
 hsub:PySem.W.subIn K (.ref C) (.type "BaseException")=some true
 ha:PySem.W.findIn K (.ref C) "__class__" = some (some (.builtin "object.__class__"))
 hn:PySem.W.specialIn K (.builtin "object.__class__") "__get__" = some (some (.builtin "getset_descriptor.__get__"))
 htk:PySem.W.takesIn K (.builtin "object.__class__")=some true
 hm:PySem.W.mroIn K C (.type "object")=some true
 hdC:PySem.W.hasDictIn K C=true
inductive XnV (W:Wd) (x:Str):L2.V→Value→Prop
 | own (D:Addr):W.mg x=some (.ref D)→XnV W x (.ref D) (.ref D)
 | blt (T:String):W.mg x=none→bootBuiltins x=some (.type T)→(x == "__name__")=false→XnV W x (.ty T) (.type T)
structure SIok (W:Wd) (P:Prg) (I:SI) (L:Lk):Prop where
 fn:∀ f i,I.fi f=some i→PySem.W.keepIn W.K (.ref (L.fA f))=true∧Binds W.K (L.fD f) i.ps []
 gn:∀ f i,I.gi f=some i→PySem.W.keepIn W.K (.ref (L.fA f))=true∧Binds W.K (L.fD f) i.ps []
 rn:∀ f i,I.ri f=some i→PySem.W.keepIn W.K (.ref (L.fA f))=true∧Binds W.K (L.fD f) i.ps []∧W.mg i.nm=some (.ref (L.fA f))
 gl:∀ f i,I.fi f=some i→i.top=true→W.mg i.nm=some (.ref (L.fA f))
 cl:∀ c k,P.cls c=some k→Cls W.K (W.cA c)∧∀ g∈k.flds,L2.NoAttr W.K (W.cA c) g
 mkk:∀ c x,I.cn c=some x→∃ k i,P.cls c=some k∧I.fi k.init=some i∧W.mg x=some (.ref (W.cA c))∧Mk W.K (W.cA c) (L.fA k.init)
 me:∀ c m f,I.ms c m=some f→Cls W.K (W.cA c)∧Meth W.K (W.cA c) m (L.fA f)
 fr:∀ x,I.free x=true→W.mg x=none
 fv:∀ f i,I.fi f=some i→W.fA f=L.fA f
 co:∀ x d,I.con x=some d→∃ v u,W.mg x=some u∧RelV v u∧∀ H S ρ,RV W H S ρ d v
 fin:∀ f i,I.fi f=some i→PySem.W.fnIn W.K (L.fA f)=true
 dn:∀ f i,I.di f=some i→i.top=true→PySem.W.keepIn W.K (.ref (L.fA f))=true∧W.mg i.nm=some (.ref (L.fA f))∧∃ ds,L2.Vals (i.dv.map L2.V.int) ds∧Binds W.K (L.fD f) i.ps ds
 nn:∀ c,I.nc c=true→(PySem.W.clsIn W.K (W.cA c)).isSome=true∧PySem.W.typeIn W.K (.ref (W.cA c))=some (.type "type")∧InsK W.K (W.cA c)
 kw:∀ f i e,(I.fi f=some i∨I.di f=some i)→I.kw f e=true→∀ (s:Shared) (us ws:List Value),us.length=e.1→ws.length=e.2.1.length→BindsTo s (L.fD f) ⟨us,e.2.1.zip ws⟩ (i.ps.zip (us++lL e.2.2 ws))
 xk:∀ c x,I.xc c=some x→XcOk W c x
 xik:∀ c x fl,I.xi c=some x→P.xcl c=some fl→XiOk W L.base c x fl
 xn:∀ k x,I.xn k=some x→W.mg x=some (.ref (W.cA k))
 xsu:∀ c k b,P.xsu c k=some b→PySem.W.exmOne W.K (.ref (W.cA c)) (.ref (W.cA k))=some b
 xis:∀ c x b,P.xis c x=some b→XqC W.K (W.cA c)∧∀ v u,XnV W x v u→PySem.W.kitOne W.K (.ref (W.cA c)) u=some b
 xq:∀ x,I.xq x=true→∃ v u,XnV W x v u
 xfd:∀ c fl,P.xcl c=some fl→XqC W.K (W.cA c)∧∀ f∈fl,PySem.W.findIn W.K (.ref (W.cA c)) f=some none
structure CxOk (W:Wd) (P:Prg) (I:SI) (L:Lk) (c1 c2:Fs) (d:Nat) (N:List Str) (sc:Scope) (fb:Str→Bool) (X:Cx):Prop where
 xw:XW W X
 eN:X.N=N
 esc:X.env.scope=sc
 efb:∀ x,fb x=true→X.fn x=true
 base:X.base=L.base
 nd:N.Nodup
 kind:sc.kind = .function
 room:Room (d + 2) X.A
 gd:I.rep=true→X.A.guards=some []
 ok:SIok W P I L
 f1:∀ f i,(I.fi f=some i∨I.di f=some i)→FnOk W.P W.w W.K W.mg L.base CX0 (d + 2) (L.fA f) (L.fD f) i.ps (be W i.ps.length (c1 f))
 f2:∀ f i,I.fi f=some i→FnOk W.P W.w W.K W.mg L.base CX0 (d + 1) (L.fA f) (L.fD f) i.ps (be W i.ps.length (c2 f))
 g2:∀ f i,I.gi f=some i→GFn1 W.P W.w W.K W.mg L.base (d + 1) (L.fA f) (L.fD f) i.ps (jM W i.ps.length (c2 f))
 gA:∀ f i,I.gi f=some i→(∃ k,k + 3≤d + 2∧L2.GFn W.P W.w W.K W.mg L.base k (L.fA f) (L.fD f) i.ps (nY W i.ps.length (c2 (6000 + f))))∨∀ vs h,c2 (6000 + f) vs h=none
 r1:I.rep=true→∀ f i,I.ri f=some i→FnG W.P W.w W.K W.mg L.base (d + 2) (L.fA f) (L.fD f) i.ps (be W i.ps.length (c1 f))
 ra:∀ f i,I.ri f=some i→Ar i.ps.length (c1 f)
 a1x:∀ f i,(I.fi f=some i∨I.di f=some i)→Ar i.ps.length (c1 f)
 a2:∀ f i,I.fi f=some i→Ar i.ps.length (c2 f)
 s1:∀ f,I.sti f=true→L2.FnR W.P W.w W.K W.mg L.base CX0 (d + 2) (L.fA f) (u4 W (c1 f))
 x1:∀ f i,(I.fi f=some i∨I.di f=some i)→FnOk W.P W.w W.K W.mg L.base (L2N.CX W.P W.w) (d + 2) (L.fA f) (L.fD f) i.ps (cB W i.ps.length fun vs h=>bu (c1 (10000 + f) vs h))
 ax:∀ f i,(I.fi f=some i∨I.di f=some i)→∀ vs h q,bu (c1 (10000 + f) vs h)=some q→vs.length=i.ps.length
 x2:∀ f i,I.fi f=some i→FnOk W.P W.w W.K W.mg L.base (L2N.CX W.P W.w) (d + 1) (L.fA f) (L.fD f) i.ps (cB W i.ps.length fun vs h=>bu (c2 (10000 + f) vs h))
 ax2:∀ f i,I.fi f=some i→∀ vs h q,bu (c2 (10000 + f) vs h)=some q→vs.length=i.ps.length
 xf:∀ f,P.xfn f=true→(I.fi f).isSome=true
 xd:∀ f,P.xdn f=true→(I.di f).isSome=true
 xh:∀ f i,I.fi f=some i→FnOk W.P W.w W.K W.mg L.base (L2.CX W.P W.w) (d + 2) (L.fA f) (L.fD f) i.ps (cB W i.ps.length fun vs h=>bu (c1 (20000 + f) vs h))
 ah:∀ f i,I.fi f=some i→∀ vs h q,bu (c1 (20000 + f) vs h)=some q→vs.length=i.ps.length
 hh:∀ f,P.xhf f=true→(I.fi f).isSome=true
section
variable {W:Wd} {P:Prg} {I:SI} {L:Lk} {c1 c2:Fs} {d:Nat} {N:List Str} {sc:Scope} {fb:Str→Bool} {X:Cx}
theorem CxOk.F1 (c:CxOk W P I L c1 c2 d N sc fb X) {f i} (h:I.fi f=some i):FnOk X.prog X.w X.K X.mg X.base CX0 (d + 2) (L.fA f) (L.fD f) i.ps (be W i.ps.length (c1 f)):=by
 rw[c.xw.P,c.xw.w,c.xw.K,c.xw.mg,c.base];exact c.f1 f i (.inl h)
theorem CxOk.X1 (c:CxOk W P I L c1 c2 d N sc fb X) {f i} (h:I.fi f=some i∨I.di f=some i):FnOk X.prog X.w X.K X.mg X.base (L2N.CX X.prog X.w) (d + 2) (L.fA f) (L.fD f) i.ps (cB W i.ps.length fun vs h=>bu (c1 (10000 + f) vs h)):=by
 rw[c.xw.P,c.xw.w,c.xw.K,c.xw.mg,c.base];exact c.x1 f i h
theorem CxOk.XH (c:CxOk W P I L c1 c2 d N sc fb X) {f i} (h:I.fi f=some i):FnOk X.prog X.w X.K X.mg X.base (L2.CX X.prog X.w) (d + 2) (L.fA f) (L.fD f) i.ps (cB W i.ps.length fun vs h=>bu (c1 (20000 + f) vs h)):=by
 rw[c.xw.P,c.xw.w,c.xw.K,c.xw.mg,c.base];exact c.xh f i h
theorem CxOk.X2 (c:CxOk W P I L c1 c2 d N sc fb X) {f i} (h:I.fi f=some i):FnOk X.prog X.w X.K X.mg X.base (L2N.CX X.prog X.w) (d + 1) (L.fA f) (L.fD f) i.ps (cB W i.ps.length fun vs h=>bu (c2 (10000 + f) vs h)):=by
 rw[c.xw.P,c.xw.w,c.xw.K,c.xw.mg,c.base];exact c.x2 f i h
theorem CxOk.wish (c:CxOk W P I L c1 c2 d N sc fb X) (E:Value→Shared→Prop):CxOk W P I L c1 c2 d N sc fb (X.wish E):=
 ⟨⟨c.xw.P,c.xw.w,c.xw.K,c.xw.mg,c.xw.calm,c.xw.un⟩,c.eN,c.esc,c.efb,c.base,c.nd,c.kind,c.room,c.gd,c.ok,c.f1,c.f2,c.g2,c.gA,c.r1,c.ra,c.a1x,c.a2,c.s1,c.x1,c.ax,c.x2,c.ax2,c.xf,c.xd,c.xh,c.ah,c.hh⟩
theorem CxOk.a1 (c:CxOk W P I L c1 c2 d N sc fb X) (f:Nat) (i:FS) (h:I.fi f=some i):Ar i.ps.length (c1 f):=c.a1x f i (.inl h)
theorem CxOk.R1 (c:CxOk W P I L c1 c2 d N sc fb X) (hr:I.rep=true) {f i} (h:I.ri f=some i):FnG X.prog X.w X.K X.mg X.base (d + 2) (L.fA f) (L.fD f) i.ps (be W i.ps.length (c1 f)):=by
 rw[c.xw.P,c.xw.w,c.xw.K,c.xw.mg,c.base];exact c.r1 hr f i h
theorem CxOk.F2 (c:CxOk W P I L c1 c2 d N sc fb X) {f i} (h:I.fi f=some i):FnOk X.prog X.w X.K X.mg X.base CX0 (d + 1) (L.fA f) (L.fD f) i.ps (be W i.ps.length (c2 f)):=by
 rw[c.xw.P,c.xw.w,c.xw.K,c.xw.mg,c.base];exact c.f2 f i h
theorem CxOk.Gn2 (c:CxOk W P I L c1 c2 d N sc fb X) {f i} (h:I.gi f=some i):GFn1 X.prog X.w X.K X.mg X.base (d + 1) (L.fA f) (L.fD f) i.ps (jM W i.ps.length (c2 f)):=by
 rw[c.xw.P,c.xw.w,c.xw.K,c.xw.mg,c.base];exact c.g2 f i h
theorem CxOk.blk (c:CxOk W P I L c1 c2 d N sc fb X) {scope:Scope} {own:List (Str×Nat)} (ok:BlkOk N sc scope own) (s:Shared) (H:HH) (C:Addr) (cl:List (Str×Addr)) (fp:List Addr):
  CxOk W P I L c1 c2 d N (L2.relS scope sc) (fun x=>scope.names.lookup x == some .cell) (X.blk s H scope (compEnvC scope cl C X.env) fp):=by
 refine⟨⟨c.xw.P,c.xw.w,c.xw.K,c.xw.mg,c.xw.calm,c.xw.un⟩,c.eN,?_,fun x h=>h,c.base,c.nd,?_,c.room,c.gd,c.ok,c.f1,c.f2,c.g2,c.gA,c.r1,c.ra,c.a1x,c.a2,c.s1,c.x1,c.ax,c.x2,c.ax2,c.xf,c.xd,c.xh,c.ah,c.hh⟩
 ·show L2.relS scope X.env.scope=_
  rw[c.esc]
 ·exact ok.kind
theorem CxOk.gl (c:CxOk W P I L c1 c2 d N sc fb X) {x:Str} (h:dZ sc x=true):Gl X x∧(x == ("__debug__":Str))=false:=by
 unfold dZ at h
 rw[Bool.and_eq_true]at h
 obtain⟨h1,h2⟩:=h
 refine⟨?_,?_⟩
 ·show X.env.scope.names.lookup x=_
  rw[c.esc]
  split at h1
  ·assumption
  ·cases h1
 ·unfold i7 at h2
  simp only[Bool.and_eq_true,Bool.not_eq_true']at h2
  exact h2.1
theorem vc {x:Str} (h:i7 x=true):(x == ("__debug__":Str))=false∧(x == ("__classdict__":Str))=false:=by
 unfold i7 at h
 simp only[Bool.and_eq_true,Bool.not_eq_true']at h
 exact h
theorem CxOk.vis (c:CxOk W P I L c1 c2 d N sc fb X) {x:Str} (h:eP sc x=true):Vis X.env.scope x∧(x == ("__debug__":Str))=false∧(x == ("__classdict__":Str))=false:=by
 unfold eP at h
 rw[Bool.and_eq_true]at h
 obtain⟨h1,h2⟩:=h
 refine⟨?_,vc h2⟩
 rw[c.esc]
 split at h1
 ·exact .inl (by assumption)
 ·exact .inr (.inl (by assumption))
 ·exact .inr (.inr (by assumption))
 ·cases h1
theorem CxOk.loc (c:CxOk W P I L c1 c2 d N sc fb X) {x:Str} (h:pJ sc x=true):Loc X.env.scope x:=by
 unfold pJ at h
 rw[c.esc]
 split at h
 ·exact .inl (by assumption)
 ·exact .inr (by assumption)
 ·cases h
theorem CxOk.sto (c:CxOk W P I L c1 c2 d N sc fb X) {x:Str} (h:qv sc fb x=true):X.fn x=true∨X.env.scope.names.lookup x=some .local:=by
 unfold qv at h
 rcases Bool.or_eq_true_iff.mp h with q | q
 ·exact .inl (c.efb x q)
 ·refine .inr ?_
  rw[c.esc]
  split at q
  ·assumption
  ·cases q
theorem CxOk.at_ (c:CxOk W P I L c1 c2 d N sc fb X) {i:Nat} {x:Str} (h:dJ N i x=true):X.N[i]? = some x:=by
 unfold dJ at h
 rw[c.eN]
 split at h
 ·rename_i y e
  rw[e,beq_iff_eq.mp h]
 ·cases h
theorem CxOk.fr (c:CxOk W P I L c1 c2 d N sc fb X) {x:Str} (h:I.free x=true):X.mg x=none:=by rw[c.xw.mg];exact c.ok.fr x h
end
section
variable {W:Wd} {P:Prg} {I:SI} {L:Lk} {c1 c2:Fs} {d:Nat}
theorem aF:∀ {es:Es} {N:List Str} {sc:Scope} {fb:Str→Bool} {l:List Expr},au I es N sc fb l=true→aJ l=true
 | .nil,N,sc,fb,l,h=>by
  cases l with
  | nil=>rfl
  | cons _ _=>unfold au at h;cases h
 | .cons e r,N,sc,fb,l,h=>by
  unfold au at h
  cases l with
  | nil=>cases h
  | cons x l=>
   simp only[Bool.and_eq_true]at h
   simp only[aJ,Bool.and_eq_true]
   exact⟨h.1.2,aF h.2⟩
theorem ca {es:Es} {N:List Str} {sc:Scope} {fb:Str→Bool} {l:List Expr} (h:au I es N sc fb l=true):l=[]→aB P c1 c2 es=F0:=by
 intro e
 subst e
 cases es with
 | nil=>funext env h;rfl
 | cons e r=>unfold au at h;cases h
theorem jO:∀ {es:Es} {env:Env} {h:Mm} {vs:List D} {h1:Mm} {N:List Str} {sc:Scope} {fb:Str→Bool} {l:List Expr},au I es N sc fb l=true→aB P c1 c2 es env h=some (vs,h1)→vs.length=l.length
 | .nil,env,h,vs,h1,N,sc,fb,l,hc,e=>by
  cases l with
  | nil=>cases e;rfl
  | cons _ _=>unfold au at hc;cases hc
 | .cons x r,env,h,vs,h1,N,sc,fb,l,hc,e=>by
  unfold au at hc
  cases l with
  | nil=>cases hc
  | cons y l=>
   simp only[Bool.and_eq_true]at hc
   unfold aB at e
   split at e
   ·split at e
    ·cases e
     rename_i q
     simp[jO hc.2 q]
    ·cases e
   ·cases e
theorem kG:∀ {ts:Ts} {ds:List D} {env:Env} {h:Mm} {r} {N:List Str} {sc:Scope} {fb:Str→Bool} {l:List Expr},cR I ts N sc fb l=true→bU P c1 c2 ts ds env h=some r→ds.length=l.length
 | .nil,ds,env,h,r,N,sc,fb,l,hc,e=>by
  cases l with
  | nil=>
   cases ds with
   | nil=>rfl
   | cons _ _=>unfold bU at e;cases e
  | cons _ _=>unfold cR at hc;cases hc
 | .cons t r',ds,env,h,r,N,sc,fb,l,hc,e=>by
  unfold cR at hc
  cases l with
  | nil=>cases hc
  | cons y l=>
   simp only[Bool.and_eq_true]at hc
   cases ds with
   | nil=>unfold bU at e;cases e
   | cons d ds=>
    unfold bU at e
    try dsimp only at e
    split at e
    ·simp[kG hc.2 e]
    ·cases e
theorem kH:∀ {es:Ts} {N:List Str} {sc:Scope} {fb:Str→Bool} {l:List Expr},cR I es N sc fb l=true→aJ l=true
 | .nil,N,sc,fb,l,h=>by
  cases l with
  | nil=>rfl
  | cons _ _=>unfold cR at h;cases h
 | .cons e r,N,sc,fb,l,h=>by
  unfold cR at h
  cases l with
  | nil=>cases h
  | cons x l=>
   simp only[Bool.and_eq_true]at h
   simp only[aJ,Bool.and_eq_true]
   exact⟨h.1.2,kH h.2⟩
theorem bZ (N:List Str) (own:List Nat):(c6 N own).map (·.2)=own:=by
 unfold c6
 rw[List.map_map]
 exact (List.map_congr_left (fun _ _=>rfl)).trans (List.map_id own)
theorem mM {N:List Str} {sc:Scope} {fb:Str→Bool} {X:Cx} {cc f:Nat} {m:Str} (c:CxOk W P I L c1 c2 d N sc fb X) (q1:(match I.ms cc m with | some f'=>Nat.beq f' f | none=>false)=true) (q2:(I.fi f).isSome=true):∃ i,I.fi f=some i∧Meth W.K (W.cA cc) m (L.fA f):=by
 obtain⟨i,hi⟩:=Option.isSome_iff_exists.mp q2
 split at q1
 ·rename_i f' e
  have:=Nat.eq_of_beq_eq_true q1
  subst this
  exact⟨i,hi,(c.ok.me _ _ _ e).2⟩
 ·cases q1
mutual
theorem al:∀ (e:E) {N:List Str} {sc:Scope} {fb:Str→Bool} {X:Cx} {x:Expr},CxOk W P I L c1 c2 d N sc fb X→ac I e N sc fb x=true→PE X x (tE W (af P c1 c2 e))
 | .var i,N,sc,fb,X,x,c,h=>by
  unfold ac at h
  split at h
  ·rw[Bool.and_eq_true]at h
   obtain⟨v1,v2,v3⟩:=c.vis h.2
   exact uh (c.at_ h.1) v1 v2 v3
  ·cases h
 | .non,N,sc,fb,X,x,c,h=>by simp[ac]at h
 | .bl b,N,sc,fb,X,x,c,h=>by
  unfold ac at h
  split at h
  ·rw[beq_iff_eq]at h;subst h
   exact fK L2.pe_bl fun _ _ _=>.bl _
  ·cases h
 | .int b,N,sc,fb,X,x,c,h=>by
  unfold ac at h
  split at h
  ·rw[decide_eq_true_eq]at h;subst h
   exact fK L2.pe_int fun _ _ _=>.int _
  ·cases h
 | .str b,N,sc,fb,X,x,c,h=>by
  unfold ac at h
  split at h
  ·rw[beq_iff_eq]at h;subst h
   exact fK L2.pe_str fun _ _ _=>.str _
  ·cases h
 | .glo y d',N,sc,fb,X,x,c,h=>by
  unfold ac at h
  split at h
  ·simp only[Bool.and_eq_true]at h
   obtain⟨⟨h1,h2⟩,h3⟩:=h
   split at h3
   ·rename_i e ce
    cases i3 h3
    obtain⟨v,u,m,r,rv⟩:=c.ok.co _ _ ce
    obtain⟨g1,g2⟩:=c.gl h2
    exact fK (L2.pe_glob g1 (by rw[c.xw.mg];exact m) r g2) rv
   ·cases h3
  ·cases h
 | .bin o z a b,N,sc,fb,X,x,c,h=>by
  unfold ac at h
  split at h
  ·simp only[Bool.and_eq_true,decide_eq_true_eq]at h
   obtain⟨⟨rfl,h2⟩,h3⟩:=h
   exact tK c.xw (al a c h2) (al b c h3)
  ·cases h
 | .neg a,N,sc,fb,X,x,c,h=>by
  unfold ac at h
  split at h
  ·exact tY (al a c h)
  ·cases h
 | .cmp o a b,N,sc,fb,X,x,c,h=>by
  unfold ac at h
  split at h
  ·simp only[Bool.and_eq_true,decide_eq_true_eq]at h
   obtain⟨⟨⟨rfl,h2⟩,h3⟩,h4⟩:=h
   exact tM c.xw (al a c h2) (al b c h3) (hX h4)
  ·cases h
 | .chn o o' a b e,N,sc,fb,X,x,c,h=>by
  unfold ac at h
  split at h
  ·simp only[Bool.and_eq_true,decide_eq_true_eq]at h
   obtain⟨⟨⟨⟨⟨rfl,rfl⟩,h2⟩,h3⟩,h4⟩,h5⟩:=h
   exact sM c.xw (al a c h2) (al b c h3) (al e c h4) (hX h5)
  ·cases h
 | .and es,N,sc,fb,X,x,c,h=>by
  unfold ac at h
  split at h
  ·simp only[Bool.and_eq_true]at h
   exact oO es c h.1 h.2
  ·cases h
 | .or es,N,sc,fb,X,x,c,h=>by
  unfold ac at h
  split at h
  ·simp only[Bool.and_eq_true]at h
   exact qX es c h.1 h.2
  ·cases h
 | .not t,N,sc,fb,X,x,c,h=>by
  cases t with
  | of e=>
   unfold ac at h
   split at h
   ·rename_i e1 u pos he
    cases he
    exact p8 c.xw (al e c h)
   ·cases h
  | _=>unfold ac at h;cases h
 | .ite t a b,N,sc,fb,X,x,c,h=>by
  unfold ac at h
  split at h
  ·simp only[Bool.and_eq_true]at h
   exact tG (cH t c h.1.1) (al a c h.1.2) (al b c h.2)
  ·cases h
 | .tup es,N,sc,fb,X,x,c,h=>by
  unfold ac at h
  split at h
  ·exact sG (bJ es c h)
  ·cases h
 | .lst z es,N,sc,fb,X,x,c,h=>by
  unfold ac at h
  split at h
  ·exact sX (bJ es c h)
  ·cases h
 | .dic z t ks,N,sc,fb,X,x,c,h=>by
  unfold ac at h
  split at h
  ·rename_i l m p
   rw[Bool.and_eq_true]at h
   obtain⟨q1,q2,q3,q4⟩:=uY ks c h.1
   exact sK c.xw (q1 p) q2 q3 (Nat.le_of_ble_eq_true h.2) q4
  ·cases h
 | .fld o f,N,sc,fb,X,x,c,h=>by
  unfold ac at h
  split at h
  ·simp only[Bool.and_eq_true,beq_iff_eq]at h
   obtain⟨⟨rfl,h2⟩,h3⟩:=h
   exact uq c.xw (al o c h2) (gU h3) c.ok.cl
  ·cases h
 | .idx o i,N,sc,fb,X,x,c,h=>by
  unfold ac at h
  split at h
  ·simp only[Bool.and_eq_true]at h
   exact ud c.xw (al o c h.1.1) (al i c h.1.2) (wW h.2)
  ·cases h
 | .sl z o lo hi,N,sc,fb,X,x,c,h=>by
  unfold ac at h
  split at h
  ·simp only[Bool.and_eq_true]at h
   exact ve c.xw (al o c h.1.1) (uI lo c h.1.2) (uI hi c h.2)
  ·cases h
 | .call m f es,N,sc,fb,X,x,c,h=>by
  unfold ac at h
  split at h
  ·simp only[Bool.and_eq_true]at h
   obtain⟨⟨h1,h2⟩,h3⟩:=h
   split at h1
   ·rename_i i fi
    simp only[Bool.and_eq_true,beq_iff_eq]at h1
    obtain⟨rfl,h5⟩:=h1
    obtain⟨g1,g2⟩:=c.gl h2
    obtain⟨k1,k2⟩:=c.ok.fn _ _ fi
    exact o7 (c.F1 fi) (c.a1 _ _ fi) c.room g1 (by rw[c.xw.mg];exact c.ok.gl _ _ fi h5) (by rw[c.xw.K];exact k1) (by rw[c.xw.K];exact k2) g2 (aF h3) (ca h3) (bJ es c h3)
   ·rename_i y p l q _ fi
    rw[Bool.and_eq_true,Bool.and_eq_true]at h1
    obtain⟨⟨hr,he⟩,h1⟩:=h1
    split at h1
    ·rename_i i ri
     rw[beq_iff_eq]at h1
     subst h1
     obtain⟨g1,g2⟩:=c.gl h2
     obtain⟨k1,k2,k3⟩:=c.ok.rn _ _ ri
     cases l with
     | nil=>cases he
     | cons a l=>exact om (c.R1 hr ri) (c.ra _ _ ri) c.room (c.gd hr) g1 (by rw[c.xw.mg];exact k3) (by rw[c.xw.K];exact k1) (by rw[c.xw.K];exact k2) g2 (aF h3) (bJ es c h3)
    ·cases h1
  ·cases h
 | .callV m i fs es,N,sc,fb,X,x,c,h=>by simp[ac]at h
 | .meth m k f nm o es,N,sc,fb,X,x,c,h=>by
  unfold ac at h
  split at h
  ·simp only[Bool.and_eq_true,beq_iff_eq]at h
   obtain⟨⟨⟨⟨⟨⟨⟨rfl,h1⟩,h2⟩,h3⟩,h4⟩,h5⟩,h6⟩,h7⟩:=h
   split at h1
   ·rename_i f' fm
    have e1:=Nat.eq_of_beq_eq_true h1
    subst e1
    obtain⟨i,fi⟩:=Option.isSome_iff_exists.mp h2
    obtain⟨m1,m2⟩:=c.ok.me _ _ _ fm
    obtain⟨k1,k2⟩:=c.ok.fn _ _ fi
    exact pf (al o c h3) c.xw m1 m2 (c.F1 fi) (c.a1 _ _ fi) c.room (by rw[c.xw.K];exact k2) (aF h5) (ca h5) (bJ es c h5) (cJ h4 (aF h5) (by have:=Nat.le_of_ble_eq_true h6;omega) (by rw[beq_iff_eq];exact h7))
   ·cases h1
  ·cases h
 | .methS k f nm o es,N,sc,fb,X,x,c,h=>by simp[ac]at h
 | .make m k es,N,sc,fb,X,x,c,h=>by
  unfold ac at h
  split at h
  ·simp only[Bool.and_eq_true]at h
   obtain⟨⟨h1,h2⟩,h3⟩:=h
   split at h1
   ·rename_i z cz
    rw[beq_iff_eq]at h1
    subst h1
    obtain⟨g1,g2⟩:=c.gl h2
    obtain⟨cl,i,hc,fi,hm,mk⟩:=c.ok.mkk _ _ cz
    obtain⟨k1,k2⟩:=c.ok.fn _ _ fi
    exact p6 hc c.xw mk (c.F2 fi) (c.a2 _ _ fi) c.room (by rw[c.xw.K];exact k2) g1 (by rw[c.xw.mg];exact hm) g2 (aF h3) (ca h3) (bJ es c h3)
   ·cases h1
  ·cases h
 | .blt b z es,N,sc,fb,X,x,c,h=>by
  unfold ac at h
  split at h
  ·simp only[Bool.and_eq_true,beq_iff_eq]at h
   obtain⟨⟨⟨⟨h1,rfl⟩,h2⟩,h3⟩,h4⟩:=h
   exact sY c.xw (fun e=>by subst e;exact c.gd h1) (c.gl h3).1 (c.fr h2) (aF h4) (bJ es c h4)
  ·cases h
 | .bm b o es,N,sc,fb,X,x,c,h=>by
  unfold ac at h
  split at h
  ·simp only[Bool.and_eq_true,beq_iff_eq]at h
   obtain⟨⟨⟨⟨⟨⟨rfl,h2⟩,h3⟩,h4⟩,h5⟩,h6⟩,h7⟩:=h
   exact vU c.xw h2 (al o c h3) h4 (aF h5) (by have:=Nat.le_of_ble_eq_true h6;omega) (by rw[beq_iff_eq];exact h7) (bJ es c h5)
  ·cases h
 | .isi e t,N,sc,fb,X,x,c,h=>by
  unfold ac at h
  split at h
  ·simp only[Bool.and_eq_true,beq_iff_eq]at h
   obtain⟨⟨⟨⟨⟨⟨⟨rfl,rfl⟩,h3⟩,h4⟩,h5⟩,h6⟩,h7⟩,h8⟩:=h
   exact tz c.xw (c.gl h5).1 (c.fr h3) (c.gl h6).1 (c.fr h4) h8 (al e c h7)
  ·cases h
 | .isiC e t cs,N,sc,fb,X,x,c,h=>by simp[ac]at h
 | .isi2 e ts,N,sc,fb,X,x,c,h=>by simp[ac]at h
 | .rev z e,N,sc,fb,X,x,c,h=>by
  unfold ac at h
  split at h
  ·exact ug c.xw (al e c h)
  ·cases h
 | .sidx m cc f o i,N,sc,fb,X,x,c,h=>by
  unfold ac at h
  split at h
  ·simp only[Bool.and_eq_true]at h
   obtain⟨⟨⟨⟨q1,q2⟩,q3⟩,q4⟩,q5⟩:=h
   obtain⟨j,hj,hme⟩:=mM c q1 q2
   exact qE c.xw (al o c q3) (al i c q4) hme (c.ok.fin _ _ hj) (c.F2 hj) (c.a2 _ _ hj) c.room (by rw[c.xw.K];exact (c.ok.fn _ _ hj).2) q5
  ·cases h
 | .sin neg m cc f a o,N,sc,fb,X,x,c,h=>by
  unfold ac at h
  split at h
  ·simp only[Bool.and_eq_true,decide_eq_true_eq]at h
   obtain⟨⟨⟨⟨⟨rfl,q1⟩,q2⟩,q3⟩,q4⟩,q5⟩:=h
   obtain⟨i,hi,hme⟩:=mM c q1 q2
   exact (lY c.xw (al a c q3) (al o c q4) hme (c.F1 hi) (c.a1 _ _ hi) c.room (by rw[c.xw.K];exact (c.ok.fn _ _ hi).2) q5).1
  ·cases h
 | .seq m cc f a b,N,sc,fb,X,x,c,h=>by simp[ac]at h
 | .callK m f ks pm es,N,sc,fb,X,x,c,h=>by simp[ac]at h
 | .methK m k f nm ks pm o es,N,sc,fb,X,x,c,h=>by simp[ac]at h
 | .isiO e k,N,sc,fb,X,x,c,h=>by simp[ac]at h
 | .deq a b,N,sc,fb,X,x,c,h=>by simp[ac]at h
 | .tdq ng a b,N,sc,fb,X,x,c,h=>by simp[ac]at h
 | .srtI z e,N,sc,fb,X,x,c,h=>by simp[ac]at h
 | .nvr,N,sc,fb,X,x,c,h=>⟨fun pins s σ H Q I hw=>by
  obtain⟨env,S,ρ,h,d,h',re,R,hf,wq⟩:=hw
  cases hf⟩
 | .bm0 b o,N,sc,fb,X,x,c,h=>by simp[ac]at h
 | .fst es,N,sc,fb,X,x,c,h=>by simp[ac]at h
 | .fmt e,N,sc,fb,X,x,c,h=>by simp[ac]at h
 | .maxD e d',N,sc,fb,X,x,c,h=>by simp[ac]at h
 | .lstR e,N,sc,fb,X,x,c,h=>by simp[ac]at h
 | .srtS z e,N,sc,fb,X,x,c,h=>by simp[ac]at h
 | .callD m f es is,N,sc,fb,X,x,c,h=>by simp[ac]at h
 | .callM m f es ks pm kes,N,sc,fb,X,x,c,h=>by simp[ac]at h
 | .isiN e k,N,sc,fb,X,x,c,h=>by simp[ac]at h
 | .comp z own e g it cs,N,sc,fb,X,x,c,h=>by
  unfold ac at h
  split at h
  ·rename_i elt tg iter ifs scope pos
   simp only[Bool.and_eq_true]at h
   obtain⟨⟨⟨⟨⟨⟨h1,h2⟩,h3⟩,h4⟩,h5⟩,h6⟩,h7⟩:=h
   have ok:=L2.blkOk_by h1
   have ok':BlkOk X.N X.env.scope scope (c6 N own):=by rw[c.eN,c.esc];exact ok
   refine (L2.pe_lc c.xw.calm (by rw[c.eN];exact c.nd) (eK it c h2) ok' (fun s H C cl fp=>bT g (c.blk ok s H C cl fp) h4) (fun s H C cl fp=>kX cs (c.blk ok s H C cl fp) h5) (fun s H C cl fp=>al e (c.blk ok s H C cl fp) h6) (da h3)).sub fun σ H Q hw=>?_
   rw[bZ]
   refine mi (z:=z) (fun i hi=>?_) hw
   have:=List.all_eq_true.mp h7 i hi
   simpa using this
  ·cases h
 | .cmpD z own e g it cs,N,sc,fb,X,x,c,h=>by simp[ac]at h
 | .lstG z cc f nm o,N,sc,fb,X,x,c,h=>by simp[ac]at h
 | .comp2 z own e g it cs vs1 g1 it1 cs1,N,sc,fb,X,x,c,h=>by simp[ac]at h
theorem cH:∀ (e:C) {N:List Str} {sc:Scope} {fb:Str→Bool} {X:Cx} {x:Expr},CxOk W P I L c1 c2 d N sc fb X→cU I e N sc fb x=true→PT X x (tC W (cv P c1 c2 e))
 | .and cs,N,sc,fb,X,x,c,h=>by
  unfold cU at h
  split at h
  ·simp only[Bool.and_eq_true]at h
   exact (nG cs c h.1 h.2).pt
  ·cases h
 | .or cs,N,sc,fb,X,x,c,h=>by
  unfold cU at h
  split at h
  ·simp only[Bool.and_eq_true]at h
   exact (oo cs c h.1 h.2).pt
  ·cases h
 | .not t,N,sc,fb,X,x,c,h=>by
  unfold cU at h
  split at h
  ·exact ui (cH t c h)
  ·cases h
 | .of e,N,sc,fb,X,x,c,h=>by
  unfold cU at h
  rw[Bool.and_eq_true]at h
  obtain⟨h1,h2⟩:=h
  by_cases hp:rg x=true
  ·exact t9 c.xw (al e c h1) (sk hp)
  ·have h3:mD e=true:=by simpa [hp] using h2
   cases e with
   | cmp o a b=>
    unfold ac at h1
    split at h1
    ·simp only[Bool.and_eq_true,decide_eq_true_eq]at h1
     obtain⟨⟨⟨rfl,q2⟩,q3⟩,q4⟩:=h1
     exact pL c.xw (al a c q2) (al b c q3) (hX q4)
    ·cases h1
   | chn o o' a b e=>
    unfold ac at h1
    split at h1
    ·simp only[Bool.and_eq_true,decide_eq_true_eq]at h1
     obtain⟨⟨⟨⟨⟨rfl,rfl⟩,q2⟩,q3⟩,q4⟩,q5⟩:=h1
     exact pH c.xw (al a c q2) (al b c q3) (al e c q4) (hX q5)
    ·cases h1
   | sin neg m cc f a o=>
    unfold ac at h1
    split at h1
    ·simp only[Bool.and_eq_true,decide_eq_true_eq]at h1
     obtain⟨⟨⟨⟨⟨rfl,q1⟩,q2⟩,q3⟩,q4⟩,q5⟩:=h1
     obtain⟨i,hi,hme⟩:=mM c q1 q2
     exact (lY c.xw (al a c q3) (al o c q4) hme (c.F1 hi) (c.a1 _ _ hi) c.room (by rw[c.xw.K];exact (c.ok.fn _ _ hi).2) q5).2
    ·cases h1
   | seq m cc f a b=>simp[ac]at h1
   | deq a b=>simp[ac]at h1
   | tdq ng a b=>simp[ac]at h1
   | _=>cases h3
theorem nG:∀ (e:Cs) {N:List Str} {sc:Scope} {fb:Str→Bool} {X:Cx} {l:List Expr} {p:Pos},CxOk W P I L c1 c2 d N sc fb X→cS I e N sc fb l=true→(!l.isEmpty)=true→PW X (.BoolOp .And l p) (tC W (bC P c1 c2 e))
 | .nil,N,sc,fb,X,l,p,c,h,h0=>by
  unfold cS at h
  split at h
  ·cases h0
  ·cases h
 | .cons t r,N,sc,fb,X,l,p,c,h,h0=>by
  unfold cS at h
  split at h
  ·rename_i y l
   rw[Bool.and_eq_true]at h
   cases l with
   | nil=>
    cases r with
    | nil=>exact qk (cH t c h.1)
    | cons _ _=>have:=h.2;unfold cS at this;cases this
   | cons w l=>exact qp (cH t c h.1) (nG r c h.2 rfl)
  ·cases h
theorem oo:∀ (e:Cs) {N:List Str} {sc:Scope} {fb:Str→Bool} {X:Cx} {l:List Expr} {p:Pos},CxOk W P I L c1 c2 d N sc fb X→cS I e N sc fb l=true→(!l.isEmpty)=true→PW X (.BoolOp .Or l p) (tC W (eE P c1 c2 e))
 | .nil,N,sc,fb,X,l,p,c,h,h0=>by
  unfold cS at h
  split at h
  ·cases h0
  ·cases h
 | .cons t r,N,sc,fb,X,l,p,c,h,h0=>by
  unfold cS at h
  split at h
  ·rename_i y l
   rw[Bool.and_eq_true]at h
   cases l with
   | nil=>
    cases r with
    | nil=>exact tQ (cH t c h.1)
    | cons _ _=>have:=h.2;unfold cS at this;cases this
   | cons w l=>exact tJ (cH t c h.1) (oo r c h.2 rfl)
  ·cases h
theorem kX:∀ (e:Cs) {N:List Str} {sc:Scope} {fb:Str→Bool} {X:Cx} {l:List Expr},CxOk W P I L c1 c2 d N sc fb X→iJ I e N sc fb l=true→PTs X l (tC W (bC P c1 c2 e))
 | .nil,N,sc,fb,X,l,c,h=>by
  unfold iJ at h
  split at h
  ·refine⟨fun pins s σ H Q In hw=>L2.pts_nil.run pins s σ H Q In ?_⟩
   obtain⟨env,S,ρ,h,b,h',re,R,hf,wq⟩:=hw
   cases hf
   exact wq _ _ _ .refl R
  ·cases h
 | .cons t r,N,sc,fb,X,l,c,h=>by
  unfold iJ at h
  split at h
  ·rw[Bool.and_eq_true]at h
   obtain⟨h1,h2⟩:=h
   cases r with
   | cons _ _=>cases h2
   | nil=>
    refine⟨fun pins s σ H Q In hw=>(L2.pts_one (cH t c h1)).run pins s σ H Q In ?_⟩
    obtain⟨env,S,ρ,h,b,h',re,R,hf,wq⟩:=hw
    unfold bC at hf
    split at hf
    ·rename_i h1 e1
     unfold bC at hf
     cases hf
     exact⟨env,S,ρ,h,_,_,re,R,e1,wq⟩
    ·rename_i h1 e1
     cases hf
     exact⟨env,S,ρ,h,_,_,re,R,e1,wq⟩
    ·cases hf
  ·cases h
theorem oO:∀ (e:Es) {N:List Str} {sc:Scope} {fb:Str→Bool} {X:Cx} {l:List Expr} {p:Pos},CxOk W P I L c1 c2 d N sc fb X→au I e N sc fb l=true→(!l.isEmpty)=true→PE X (.BoolOp .And l p) (tE W (eR P c1 c2 e))
 | .nil,N,sc,fb,X,l,p,c,h,h0=>by
  unfold au at h
  split at h
  ·cases h0
  ·cases h
 | .cons t r,N,sc,fb,X,l,p,c,h,h0=>by
  unfold au at h
  split at h
  ·rename_i y l
   simp only[Bool.and_eq_true]at h
   cases l with
   | nil=>
    cases r with
    | nil=>exact lD (al t c h.1.1)
    | cons _ _=>have:=h.2;unfold au at this;cases this
   | cons w l=>
    cases r with
    | nil=>have:=h.2;unfold au at this;cases this
    | cons r1 r2=>exact tX c.xw (al t c h.1.1) (oO (.cons r1 r2) c h.2 rfl)
  ·cases h
theorem qX:∀ (e:Es) {N:List Str} {sc:Scope} {fb:Str→Bool} {X:Cx} {l:List Expr} {p:Pos},CxOk W P I L c1 c2 d N sc fb X→au I e N sc fb l=true→(!l.isEmpty)=true→PE X (.BoolOp .Or l p) (tE W (gG P c1 c2 e))
 | .nil,N,sc,fb,X,l,p,c,h,h0=>by
  unfold au at h
  split at h
  ·cases h0
  ·cases h
 | .cons t r,N,sc,fb,X,l,p,c,h,h0=>by
  unfold au at h
  split at h
  ·rename_i y l
   simp only[Bool.and_eq_true]at h
   cases l with
   | nil=>
    cases r with
    | nil=>exact lD (al t c h.1.1)
    | cons _ _=>have:=h.2;unfold au at this;cases this
   | cons w l=>
    cases r with
    | nil=>have:=h.2;unfold au at this;cases this
    | cons r1 r2=>exact vB c.xw (al t c h.1.1) (qX (.cons r1 r2) c h.2 rfl)
  ·cases h
theorem bJ:∀ (e:Es) {N:List Str} {sc:Scope} {fb:Str→Bool} {X:Cx} {l:List Expr},CxOk W P I L c1 c2 d N sc fb X→au I e N sc fb l=true→PA X l (bK W (aB P c1 c2 e))
 | .nil,N,sc,fb,X,l,c,h=>by
  unfold au at h
  split at h
  ·exact uo
  ·cases h
 | .cons t r,N,sc,fb,X,l,c,h=>by
  unfold au at h
  split at h
  ·simp only[Bool.and_eq_true]at h
   exact pX (al t c h.1.1) (bJ r c h.2) (am h.1.2)
  ·cases h
theorem yU:∀ (e:Es) {N:List Str} {sc:Scope} {fb:Str→Bool} {X:Cx} {l:List Expr},CxOk W P I L c1 c2 d N sc fb X→au I e N sc fb l=true→JW W X l (aB P c1 c2 e)
 | .nil,N,sc,fb,X,l,c,h=>by
  unfold au at h
  split at h
  ·exact uR
  ·cases h
 | .cons t r,N,sc,fb,X,l,c,h=>by
  unfold au at h
  split at h
  ·simp only[Bool.and_eq_true]at h
   exact th (al t c h.1.1) (yU r c h.2)
  ·cases h
theorem wM:∀ (e:Es) {N:List Str} {sc:Scope} {fb:Str→Bool} {X:Cx} {l:List Keyword},CxOk W P I L c1 c2 d N sc fb X→jw I e N sc fb l=true→L2.PK X l (bK W (aB P c1 c2 e))
 | .nil,N,sc,fb,X,l,c,h=>by
  unfold jw at h
  split at h
  ·exact u8
  ·cases h
 | .cons t r,N,sc,fb,X,l,c,h=>by
  unfold jw at h
  split at h
  ·simp only[Bool.and_eq_true]at h
   exact v9 (al t c h.1) (wM r c h.2)
  ·cases h
theorem uI:∀ (e:Es) {N:List Str} {sc:Scope} {fb:Str→Bool} {X:Cx} {l:Option Expr},CxOk W P I L c1 c2 d N sc fb X→jR I e N sc fb l=true→PO X l (tP W (j7 P c1 c2 e))
 | .nil,N,sc,fb,X,l,c,h=>by
  unfold jR at h
  split at h
  ·exact uC
  ·cases h
 | .cons t r,N,sc,fb,X,l,c,h=>by
  unfold jR at h
  split at h
  ·exact wd (al t c h)
  ·cases h
theorem uY:∀ (e:Ks) {N:List Str} {sc:Scope} {fb:Str→Bool} {X:Cx} {l:List (Option Expr)} {m:List Expr},CxOk W P I L c1 c2 d N sc fb X→km I e N sc fb l m=true →
  (∀ p,PPsW W X p l m (nk P c1 c2 e))∧l.all (·.isSome)=true∧l.length=m.length∧(l=[]→nk P c1 c2 e=fun _ h=>some ([],h))
 | .nil,N,sc,fb,X,l,m,c,h=>by
  unfold km at h
  split at h
  ·exact⟨fun p=>uB,rfl,rfl,fun _=>rfl⟩
  ·cases h
 | .cons k v r,N,sc,fb,X,l,m,c,h=>by
  unfold km at h
  split at h
  ·simp only[Bool.and_eq_true]at h
   obtain⟨q1,q2,q3,_⟩:=uY r c h.2
   exact⟨fun p=>pQ (al k c h.1.1) (al v c h.1.2) (q1 p),by simp[q2],by simp[q3],fun e=>by cases e⟩
  ·cases h
theorem bT:∀ (e:T) {N:List Str} {sc:Scope} {fb:Str→Bool} {X:Cx} {x:Expr},CxOk W P I L c1 c2 d N sc fb X→bv I e N sc fb x=true→PG X x (tT W (vT e) (asg P c1 c2 e))
 | .var i,N,sc,fb,X,x,c,h=>by
  unfold bv at h
  split at h
  ·simp only[Bool.and_eq_true]at h
   exact p9 (by rw[c.eN];exact c.nd) (c.at_ h.1.1) (c.loc h.1.2) (c.sto h.2)
  ·cases h
 | .tup ts,N,sc,fb,X,x,c,h=>by
  unfold bv at h
  split at h
  ·exact oV c.xw (rZ ts c h) (kH h) (fun ds env h' r e=>kG h e)
  ·cases h
 | .sub o i,N,sc,fb,X,x,c,h=>by
  unfold bv at h
  split at h
  ·simp only[Bool.and_eq_true]at h
   exact qA c.xw (al o c h.1.1) (al i c h.1.2) h.2
  ·cases h
 | .fld o f,N,sc,fb,X,x,c,h=>by
  unfold bv at h
  split at h
  ·simp only[Bool.and_eq_true,beq_iff_eq]at h
   obtain⟨rfl,h1⟩:=h
   exact pG c.xw (al o c h1) c.ok.cl
  ·cases h
theorem rZ:∀ (e:Ts) {N:List Str} {sc:Scope} {fb:Str→Bool} {X:Cx} {l:List Expr},CxOk W P I L c1 c2 d N sc fb X→cR I e N sc fb l=true→PGs X l (nr W (uZ e) (bU P c1 c2 e))
 | .nil,N,sc,fb,X,l,c,h=>by
  unfold cR at h
  split at h
  ·refine⟨fun pins s σ H vs us Q In r hw=>(qK (W:=W)).run pins s σ H vs us Q In r ?_⟩
   obtain⟨env,S,ρ,h,ds,env',h',re,R,rv,hg,wq⟩:=hw
   refine⟨env,S,ρ,h,ds,env',h',re,R,rv,?_,wq⟩
   cases ds with
   | nil=>unfold bU at hg;exact hg
   | cons _ _=>unfold bU at hg;cases hg
  ·cases h
 | .cons t r,N,sc,fb,X,l,c,h=>by
  unfold cR at h
  split at h
  ·simp only[Bool.and_eq_true]at h
   refine⟨fun pins s σ H vs us Q In q hw=>(n9 (bT t c h.1.1) (rZ r c h.2) h.1.2).run pins s σ H vs us Q In q ?_⟩
   obtain⟨env,S,ρ,h,ds,env',h',re,R,rv,hg,wq⟩:=hw
   refine⟨env,S,ρ,h,ds,env',h',re,R,rv,?_,wq⟩
   cases ds with
   | nil=>unfold bU at hg;cases hg
   | cons _ _=>unfold bU at hg;exact hg
  ·cases h
theorem eK:∀ (e:Ev.It) {N:List Str} {sc:Scope} {fb:Str→Bool} {X:Cx} {x tg:Expr},CxOk W P I L c1 c2 d N sc fb X→eV I e N sc fb x tg=true→PI X tg x (tI W (cy P c1 c2 e))
 | .of e,N,sc,fb,X,x,tg,c,h=>by
  unfold eV at h
  exact sN c.xw (al e c h)
 | .rng es,N,sc,fb,X,x,tg,c,h=>by
  unfold eV at h
  split at h
  ·simp only[Bool.and_eq_true,beq_iff_eq]at h
   obtain⟨⟨⟨rfl,h2⟩,h3⟩,h4⟩:=h
   exact pF (c.gl h3).1 (c.fr h2) (bJ es c h4) (aF h4) fun env h' vs h1 e=>jO h4 e
  ·cases h
 | .enm e,N,sc,fb,X,x,tg,c,h=>by
  unfold eV at h
  split at h
  ·simp only[Bool.and_eq_true,beq_iff_eq]at h
   obtain⟨⟨⟨⟨rfl,h2⟩,h3⟩,h4⟩,h5⟩:=h
   exact qu c.xw (c.gl h3).1 (c.fr h2) (al e c h4) h5
  ·cases h
 | .zip a b,N,sc,fb,X,x,tg,c,h=>by
  unfold eV at h
  split at h
  ·simp only[Bool.and_eq_true,beq_iff_eq]at h
   obtain⟨⟨⟨⟨⟨⟨rfl,h2⟩,h3⟩,h4⟩,h5⟩,h6⟩,h7⟩:=h
   exact pE c.xw (c.gl h3).1 (c.fr h2) (al a c h4) (al b c h5) h6 h7
  ·cases h
end
end
open L2 (upd upd_same upd_ne ne_of ne_of_none Cx VK XK WX Inv RelV HOk ObjOk PE PA PS PSs PT PI PG TE TA TS Room FnOk Gl Binds Cls Meth PassesAt WE Hp Vals CXT Raises MkP PMk exo exd thn Ends Names Zc Sky frs SP store_ok gone_ok Loc)
section
variable {W:Wd} {X:Cx} {H:HH} {S:Addr→Prop} {ρ:aq}
theorem kO.go {h h':Mm} {H':HH} {S':Addr→Prop} {ρ':aq} {fs:List (Str×D)} {d:Option Addr} (x:kO W H S ρ fs d) (R:RH W H S ρ h) (g:Go S ρ h H S' ρ' h' H'):kO W H' S' ρ' fs d:=by
 rcases x with x | ⟨dd,gs,e,e2,r⟩
 ·exact .inl x
 ·refine .inr ⟨dd,gs,e,g.fr _ _ e2 fun ⟨n,o,en,q⟩=>?_,r.mono' g.sS (g.s2 R) g.rr⟩
  obtain⟨b,ho,q',eb,_,ro⟩:=R.lv n o en
  rw[q]at q';cases q'
  rw[e2]at eb;cases eb
  cases ro
structure Hx where
 a:Addr
 i:Option Nat
 d:Option Addr
 fs:List (Str×D)
variable {x:Hx} {f g k:Env→Option D} {fss:Env→Option (List D)} {e e1 e2:Expr} {es:List Expr} {pos:Pos}
end
open L2 (upd upd_same upd_ne ne_of ne_of_none Cx VK XK WX Takes Inv RelV HOk ObjOk PE PA PS PSs PT PI PG TE TA TS Room FnOk Gl Binds Cls Meth PassesAt WE passAt Hp Vals CXT thn Ends Names Zc Sky frs SP store_ok gone_ok Loc)
open L2 (upd upd_same upd_ne ne_of ne_of_none Cx VK XK WX Takes Inv RelV PE PT PA TE TT TA Room FnOk Gl Binds Cls Meth PG PI PTs BlkOk PassesAt WE PS PSs TS Zc Names)
open PySem PySem.Spec PyProof.Rows GenW
open L2 (upd upd_same upd_ne Cx VK XK Inv RelV HOk PE PT PA PW TE TT TA thn Room PG PGs TG TGs PI TI Turn FpOk Loc PS PSs Ends TS SP V Vals Hp frs FnOk Un GScope Env0 Mod start Binds Cls Meth)
section
variable {W:Wd} {X:Cx} {pos p:Pos} {tg o:Expr} {fo:Fe} {g:Ft} {ks:List Nat}
theorem wB {c k:Nat} {f:Addr} {fd:FuncData} {ps:List Str} {m:Str} {apos pos':Pos} {gg:List D→Mm→Option (D×Mm)} {body:List Stmt} {fr:Env→Mm→Option aP} {Ex:XK} {pl0:Sem Bool} (hx:PassesOwn (model X.prog X.w) X.A X.env X.xe) (xw:XW W X) (ho:PE X o (tE W fo)) (hc:Cls W.K (W.cA c)) (hm:Meth W.K (W.cA c) m f)
  (F:GFn1 X.prog X.w X.K X.mg X.base k f fd ps (jM W ps.length gg)) (hn:ps.length=1) (hr:Room (k + 1) X.A) (hb:Binds X.K fd ps []) (hg:PG X tg (tT W ks g)) (hB:PSs X body (bE W fr Ex))
  (ht:eval (.Call (.Attribute o m apos) [] [] pos') X.env=(do
   let ov ← eval o X.env
   standAt apos.atName
   let (f,first) ← holding [ov] (getMethod ov m pl0)
   callWith pos' f first (backTo pos' (starEach [] X.env)) (backToKw pos' (keywordEach [] X.env)))):
  PS X (.For tg (.Call (.Attribute o m apos) [] [] pos') body [] pos) (bE W (fun env h=>match fo env h with
  | some (x,h1)=>(match aO h1 x with
   | some (c',fs')=>bif Nat.beq c c'&&(aY fs' m).isNone&&aD x then (match gg [x] .nil with
    | some (.tup [v],_)=>bif aD v then (match g v env h1 with
     | some (env2,h2)=>fr env2 h2
     | none=>none) else none
    | _=>none) else none
   | none=>none)
  | none=>none) Ex):=by
 have hc':Cls X.K (W.cA c):=by rw[xw.K];exact hc
 have hm':Meth X.K (W.cA c) m f:=by rw[xw.K];exact hm
 refine (l6 hx xw.calm (ij ho hc' hm' F (hr.mono (Nat.le_succ _)) hb ht) hg hB hr (fun x=>rfl)).sub fun N σ H hw=>?_
 obtain⟨env,S,ρ,h,ec,efs,eh,re,R,hf,wq⟩:=hw
 dsimp only at hf
 split at hf
 rotate_left
 ·cases hf
 rename_i x h1 ea
 split at hf
 rotate_left
 ·cases hf
 rename_i c' gs ei
 obtain⟨hcc,hf2⟩:=aa hf
 clear hf
 simp only[Bool.and_eq_true]at hcc
 obtain⟨⟨hc1,hc2⟩,hpu⟩:=hcc
 have hc1:=Nat.eq_of_beq_eq_true hc1
 subst hc1
 split at hf2
 rotate_left
 ·cases hf2
 rename_i v hh eg
 obtain⟨hpv,hf3⟩:=aa hf2
 split at hf3
 rotate_left
 ·cases hf3
 rename_i env2 h2 ag
 refine⟨env,S,ρ,h,x,h1,re,R,ea,fun S1 ρ1 H1 v1 g1 R1 r1=>?_⟩
 obtain⟨a,dx,gs',rfl,e1,rf⟩:=fB ei R1 r1
 have hl:gs'.lookup m=none:=by
  rcases dD (f:=m) rf with ⟨_,q⟩ | ⟨d0,v0,q,_⟩
  ·exact q
  ·rw[q]at hc2;cases hc2
 have rp:RVs W H1 S1 cQ [x] [L2.V.ref a]:=.cons (r1.pure (fun _ z=>z) hpu) .nil
 refine⟨a,dx,gs',rfl,e1,hl,hn.symm,?_⟩
 refine⟨S1,cQ,.nil,[x],_,hh,rp,jK R1,eg,.inr ⟨v,rfl,fun S2 ρ2 H2 u g2 R2 ru=>?_⟩⟩
 obtain⟨g3,R3⟩:=apart (T:=S2) R1 g2 R2 (fun _ z=>z) fun _ z=>.inl z
 have g13:=g1.trans g3
 refine⟨env,S2,ρ1,h1,v,env2,h2,re.go g13 R,R3,ru.pure (fun _ z=>z) hpv,ag,fun S3 ρ3 H3 σ3 g4 R4 re4 _=>?_⟩
 exact⟨env2,S3,ρ3,h2,ec,efs,eh,re4,R4,hf3,wq.pre (g13.trans g4)⟩
end
open L2 (upd upd_same upd_ne ne_of ne_of_none Cx VK XK WX Inv RelV PE PT PA TE TT TA Room FnOk Gl Binds Cls Meth PG PI PTs BlkOk PassesAt WE PS PSs TS)
section
variable {W:Wd} {P:Prg} {I:SI} {L:Lk} {c1 c2:Fs} {d:Nat}
structure Own (X:Cx) (E:L2.St→XK):Prop where
 st:X.stack=X.env :: X.outer
 fr:X.env.frame=some X.env.locals
 tk:L2N.Takes X fun cls d σ H=>E σ cls d H
mutual
theorem dP:∀ (e:E) (b:Bool) {N:List Str} {sc:Scope} {fb:Str→Bool} {X:Cx} {x:Expr} {Ew:L2.St→XK},CxOk W P I L c1 c2 d N sc fb X→(∀ σ,PassesAt (L2N.CX X.prog X.w) X σ (Ew σ))→(b=true→Own X Ew)→ac I e N sc fb x=true→PE X x (rE W (bh P c1 c2 b e) Ew):=by
 intro e b N sc fb X x Ew c hx ho h
 cases e with
 | call m f es=>
  unfold ac at h
  split at h
  rotate_left
  ·cases h
  simp only[Bool.and_eq_true]at h
  obtain⟨⟨h1,h2⟩,h3⟩:=h
  cases hf:P.xfn f with
  | false=>exact⟨fun pins s σ H Q I hw=>by
    obtain⟨_,_,_,_,_,_,_,_,_,z,_⟩:=hw
    unfold bh at z
    rw[hf]at z
    cases z⟩
  | true=>
   have fi:=c.xf f hf
   obtain⟨i,fi⟩:=Option.isSome_iff_exists.mp fi
   rw[fi]at h1
   simp only[Bool.and_eq_true,beq_iff_eq]at h1
   obtain⟨rfl,h5⟩:=h1
   obtain⟨g1,g2⟩:=c.gl h2
   obtain⟨k1,k2⟩:=c.ok.fn _ _ fi
   have hA:=iI es b c hx ho h3
   have hN:=bJ es c h3
   have gm:X.mg i.nm=some (.ref (L.fA f)):=by rw[c.xw.mg];exact c.ok.gl _ _ fi h5
   have gk:PySem.W.keepIn X.K (.ref (L.fA f))=true:=by rw[c.xw.K];exact k1
   have gb:Binds X.K (L.fD f) i.ps []:=by rw[c.xw.K];exact k2
   have e1:bh P c1 c2 b (.call m f es)=fun env h=>orR (aB P c1 c2 es env h).isSome (eG P c1 c2 b es env h) (match aB P c1 c2 es env h with
     | some (vs,h1)=>cE m (fun vs h=>bu (c1 (10000 + f) vs h)) vs h1
     | none=>none):=by
    funext env h
    show (bif P.xfn f then _ else none)=_
    rw[hf]
    rfl
   rw[e1]
   refine PE.orR ?_ ?_
   ·cases es with
    | nil=>exact cY
    | cons e r=>
     unfold au at h3
     split at h3
     rotate_left
     ·cases h3
     rename_i x' l'
     have pl:=aF (I:=I) (es:=.cons e r) (l:=x' :: l') (N:=N) (sc:=sc) (fb:=fb) (by unfold au;exact h3)
     exact uX (c.F1 fi) c.room g1 gm gk gb g2 pl hA
   ·exact sD hx (c.X1 (.inl fi)) (c.ax f i (.inl fi)) c.room g1 gm gk gb g2 (aF h3) (ca h3) hN
 | meth m k f nm o es=>
  unfold ac at h
  split at h
  rotate_left
  ·cases h
  simp only[Bool.and_eq_true,beq_iff_eq]at h
  obtain⟨⟨⟨⟨⟨⟨⟨rfl,h1⟩,h2⟩,h3⟩,h4⟩,h5⟩,h6⟩,h7⟩:=h
  split at h1
  rotate_left
  ·cases h1
  rename_i f' fm
  have e1:=Nat.eq_of_beq_eq_true h1
  subst e1
  obtain⟨i,fi⟩:=Option.isSome_iff_exists.mp h2
  obtain⟨m1,m2⟩:=c.ok.me _ _ _ fm
  obtain⟨k1,k2⟩:=c.ok.fn _ _ fi
  have gb:Binds X.K (L.fD f') i.ps []:=by rw[c.xw.K];exact k2
  have hA:=iI es b c hx ho h5
  have few:es=es:=rfl
  refine PE.orR (nK (dP o b c hx ho h3) (cJ h4 (aF h5) (by have:=Nat.le_of_ble_eq_true h6;omega) (by rw[beq_iff_eq];exact h7))) (PE.orR ?_ ?_)
  ·cases es with
   | nil=>exact⟨fun pins s σ H Q I hw=>by
     obtain⟨_,_,_,_,_,_,_,_,_,z,_⟩:=hw
     dsimp only[eG]at z
     split at z
     ·split at z
      ·rename_i q1 _ _ _ _ _
       revert z
       cases (Nat.beq k _&&Option.isNone _)<;>intro z<;>cases z
      ·cases z
     ·cases z⟩
   | cons e r=>
    unfold au at h5
    split at h5
    rotate_left
    ·cases h5
    rename_i x' l'
    have pl:=aF (I:=I) (es:=.cons e r) (l:=x' :: l') (N:=N) (sc:=sc) (fb:=fb) (by unfold au;exact h5)
    exact u7 (al o c h3) c.xw m1 m2 (c.F1 fi) c.room gb pl hA (cJ h4 pl (by have:=Nat.le_of_ble_eq_true h6;omega) (by rw[beq_iff_eq];exact h7))
  ·exact wx hx (al o c h3) c.xw m1 m2 (c.X1 (.inl fi)) (c.ax f' i (.inl fi)) c.room gb (aF h5) (ca h5) (bJ es c h5) (cJ h4 (aF h5) (by have:=Nat.le_of_ble_eq_true h6;omega) (by rw[beq_iff_eq];exact h7))
 | tup es=>
  unfold ac at h
  split at h
  ·exact yY (iI es b c hx ho h)
  ·cases h
 | lst z es=>
  unfold ac at h
  split at h
  ·exact lstR (iI es b c hx ho h)
  ·cases h
 | bm bb o es=>
  unfold ac at h
  split at h
  rotate_left
  ·cases h
  simp only[Bool.and_eq_true,beq_iff_eq]at h
  obtain⟨⟨⟨⟨⟨⟨rfl,h2⟩,h3⟩,h4⟩,h5⟩,h6⟩,h7⟩:=h
  exact yu c.xw h2 (al o c h3) h4 (aF h5) (by have:=Nat.le_of_ble_eq_true h6;omega) (by rw[beq_iff_eq];exact h7) (iI es b c hx ho h5)
 | comp z own e g it cs=>
  cases b with
  | false=>exact cY
  | true=>
   obtain⟨st,fr,tk⟩:=ho rfl
   unfold ac at h
   split at h
   rotate_left
   ·cases h
   rename_i elt tg iter ifs scope pos
   simp only[Bool.and_eq_true]at h
   obtain⟨⟨⟨⟨⟨⟨h1,h2⟩,h3⟩,h4⟩,h5⟩,h6⟩,h7⟩:=h
   have ok:=L2.blkOk_by h1
   have ok':BlkOk X.N X.env.scope scope (c6 N own):=by rw[c.eN,c.esc];exact ok
   exact wz (bZ _ _) (fun i hi=>by have:=List.all_eq_true.mp h7 i hi;simpa using this) st fr tk c.xw.calm (by rw[c.eN];exact c.nd) (eK it c h2) ok' (fun s H C cl fp=>bT g (c.blk ok s H C cl fp) h4) (fun s H C cl fp=>kX cs (c.blk ok s H C cl fp) h5) (fun s H C cl fp=>al e (c.blk ok s H C cl fp) h6)
    (fun s H C cl fp xe E p=>dP e false ((c.blk ok s H C cl fp).wish xe) p (fun z=>by cases z) h6) h3
 | callM m f es ks pm kes=>simp[ac]at h
 | make m k es=>
  unfold ac at h
  split at h
  ·simp only[Bool.and_eq_true]at h
   obtain⟨⟨h1,h2⟩,h3⟩:=h
   split at h1
   ·rename_i z cz
    rw[beq_iff_eq]at h1
    subst h1
    obtain⟨g1,g2⟩:=c.gl h2
    obtain⟨cl,i,hc,fi,hm,mk⟩:=c.ok.mkk _ _ cz
    obtain⟨k1,k2⟩:=c.ok.fn _ _ fi
    exact wm hx hc c.xw mk (c.X2 fi) (c.ax2 _ _ fi) c.room (by rw[c.xw.K];exact k2) g1 (by rw[c.xw.mg];exact hm) g2 (aF h3) (ca h3) (bJ es c h3)
   ·cases h1
  ·cases h
 | fld o f=>
  unfold ac at h
  split at h
  ·simp only[Bool.and_eq_true,beq_iff_eq]at h
   obtain⟨⟨rfl,h2⟩,h3⟩:=h
   exact yq (dP o b c hx ho h2) (gU h3)
  ·cases h
 | isi e t=>
  unfold ac at h
  split at h
  ·simp only[Bool.and_eq_true,beq_iff_eq]at h
   obtain⟨⟨⟨⟨⟨⟨⟨rfl,rfl⟩,h3⟩,h4⟩,h5⟩,h6⟩,h7⟩,h8⟩:=h
   exact za (c.gl h5).1 (c.fr h3) (c.gl h6).1 (c.fr h4) h8 (dP e b c hx ho h7)
  ·cases h
 | ite t u v=>
  cases t with
  | of e=>
   unfold ac at h
   split at h
   ·rename_i tx ux vx px
    simp only[Bool.and_eq_true]at h
    have hc:=cH (.of e) c h.1.1
    refine PE.orR ?_ (zh hc (dP u b c hx ho h.1.2) (dP v b c hx ho h.2))
    have h1:=h.1.1
    unfold cU at h1
    rw[Bool.and_eq_true]at h1
    by_cases hp:rg tx=true
    ·exact wv (dP e b c hx ho h1.1) (sk hp)
    ·have h3:mD e=true:=by simpa [hp] using h1.2
     exact⟨fun pins s σ H Q I hw=>by
      obtain⟨_,_,_,_,_,_,_,_,_,z,_⟩:=hw
      exfalso
      revert z
      cases e<;>first | (intro z;cases z;done) | (cases h3;done)⟩
   ·cases h
  | _=>exact cY
 | _=>exact cY
theorem iI:∀ (e:Es) (b:Bool) {N:List Str} {sc:Scope} {fb:Str→Bool} {X:Cx} {l:List Expr} {Ew:L2.St→XK},CxOk W P I L c1 c2 d N sc fb X→(∀ σ,PassesAt (L2N.CX X.prog X.w) X σ (Ew σ))→(b=true→Own X Ew)→au I e N sc fb l=true→PA X l (rA W (eG P c1 c2 b e) Ew):=by
 intro e b N sc fb X l Ew c hx ho h
 cases e with
 | nil=>exact ko
 | cons e r=>
  unfold au at h
  split at h
  rotate_left
  ·cases h
  simp only[Bool.and_eq_true]at h
  exact PA.orR (nO (dP e b c hx ho h.1.1) (bJ r c h.2) (am h.1.2)) (nQ (al e c h.1.1) (iI r b c hx ho h.2) (am h.1.2))
end
mutual
theorem vX:∀ (e:E) {N:List Str} {sc:Scope} {fb:Str→Bool} {X:Cx} {x:Expr} {Ew:L2.St→XK},CxOk W P I L c1 c2 d N sc fb X→(∀ σ,PassesAt (L2.CX X.prog X.w) X σ (Ew σ))→ac I e N sc fb x=true→PE X x (rE W (e9 P c1 c2 e) Ew):=by
 intro e N sc fb X x Ew c hx h
 cases e with
 | call m f es=>
  unfold ac at h
  split at h
  rotate_left
  ·cases h
  simp only[Bool.and_eq_true]at h
  obtain⟨⟨h1,h2⟩,h3⟩:=h
  obtain⟨g1,g2⟩:=c.gl h2
  have hA:=uD es c hx h3
  have e1:e9 P c1 c2 (.call m f es)=fun env h=>orR (aB P c1 c2 es env h).isSome (mQ P c1 c2 es env h) (bif P.xhf f then (match aB P c1 c2 es env h with
   | some (vs,h1)=>cE m (fun vs h=>bu (c1 (20000 + f) vs h)) vs h1
   | none=>none) else none):=rfl
  rw[e1]
  refine PE.orR ?_ ?_
  ·cases es with
   | nil=>exact cY
   | cons e r=>
    unfold au at h3
    split at h3
    rotate_left
    ·cases h3
    rename_i x' l'
    have pl:=aF (I:=I) (es:=.cons e r) (l:=x' :: l') (N:=N) (sc:=sc) (fb:=fb) (by unfold au;exact h3)
    cases fi:I.fi f with
    | some i=>
     rw[fi]at h1
     simp only[Bool.and_eq_true,beq_iff_eq]at h1
     obtain⟨rfl,h5⟩:=h1
     exact oG g1 (by rw[c.xw.mg];exact c.ok.gl _ _ fi h5) (by rw[c.xw.K];exact (c.ok.fn _ _ fi).1) g2 pl hA
    | none=>
     rw[fi]at h1
     simp only[Bool.and_eq_true]at h1
     obtain⟨_,h5⟩:=h1
     split at h5
     ·rename_i i ri
      rw[beq_iff_eq]at h5
      subst h5
      obtain⟨k1,_,k3⟩:=c.ok.rn _ _ ri
      exact oG g1 (by rw[c.xw.mg];exact k3) (by rw[c.xw.K];exact k1) g2 pl hA
     ·cases h5
  ·cases hf:P.xhf f with
   | false=>exact⟨fun pins s σ H Q I hw=>by
     obtain⟨_,_,_,_,_,_,_,_,_,z,_⟩:=hw
     cases z⟩
   | true=>
    obtain⟨i,fi⟩:=Option.isSome_iff_exists.mp (c.hh f hf)
    rw[fi]at h1
    simp only[Bool.and_eq_true,beq_iff_eq]at h1
    obtain⟨rfl,h5⟩:=h1
    obtain⟨k1,k2⟩:=c.ok.fn _ _ fi
    have gm:X.mg i.nm=some (.ref (L.fA f)):=by rw[c.xw.mg];exact c.ok.gl _ _ fi h5
    have gk:PySem.W.keepIn X.K (.ref (L.fA f))=true:=by rw[c.xw.K];exact k1
    have gb:Binds X.K (L.fD f) i.ps []:=by rw[c.xw.K];exact k2
    exact sD hx (c.XH fi) (c.ah f i fi) c.room g1 gm gk gb g2 (aF h3) (ca h3) (bJ es c h3)
 | meth m k f nm o es=>
  unfold ac at h
  split at h
  rotate_left
  ·cases h
  simp only[Bool.and_eq_true,beq_iff_eq]at h
  obtain⟨⟨⟨⟨⟨⟨⟨rfl,h1⟩,h2⟩,h3⟩,h4⟩,h5⟩,h6⟩,h7⟩:=h
  exact nK (vX o c hx h3) (cJ h4 (aF h5) (by have:=Nat.le_of_ble_eq_true h6;omega) (by rw[beq_iff_eq];exact h7))
 | _=>exact cY
theorem uD:∀ (e:Es) {N:List Str} {sc:Scope} {fb:Str→Bool} {X:Cx} {l:List Expr} {Ew:L2.St→XK},CxOk W P I L c1 c2 d N sc fb X→(∀ σ,PassesAt (L2.CX X.prog X.w) X σ (Ew σ))→au I e N sc fb l=true→PA X l (rA W (mQ P c1 c2 e) Ew):=by
 intro e N sc fb X l Ew c hx h
 cases e with
 | nil=>exact ko
 | cons e r=>
  unfold au at h
  split at h
  rotate_left
  ·cases h
  simp only[Bool.and_eq_true]at h
  exact PA.orR (nO (vX e c hx h.1.1) (bJ r c h.2) (am h.1.2)) (nQ (al e c h.1.1) (uD r c hx h.2) (am h.1.2))
end
theorem CxOk.tr {N:List Str} {sc:Scope} {fb:Str→Bool} {X:Cx} (c:CxOk W P I L c1 c2 d N sc fb X) (pn:List (Addr×Obj)) (xe:Value→Shared→Prop):CxOk W P I L c1 c2 d N sc fb (X.tr pn xe):=
 ⟨⟨c.xw.P,c.xw.w,c.xw.K,c.xw.mg,c.xw.calm,c.xw.un⟩,c.eN,c.esc,c.efb,c.base,c.nd,c.kind,c.room,c.gd,c.ok,c.f1,c.f2,c.g2,c.gA,c.r1,c.ra,c.a1x,c.a2,c.s1,c.x1,c.ax,c.x2,c.ax2,c.xf,c.xd,c.xh,c.ah,c.hh⟩
end
structure NoX (X:Cx):Prop where
 no:∀ e s,X.xe e s→False
 st:X.stack=X.env :: X.outer
 fr:X.env.frame=some X.env.locals
theorem uV {x y:Str} {px py pt pt2:Pos} {kt k2:Nat} {a b:Expr} {env:PySem.Env} (hk:env.scope.kind = .function) (h:ka env.scope x y px py a b=true) (pa:aE a=true) (pb:aE b=true):
  swappedStores [.Tuple [.Name x px,.Name y py] kt pt] (.Tuple [a,b] k2 pt2) env=pure (some [x,y]):=by
 unfold ka at h
 simp only[Bool.and_eq_true,Bool.not_eq_true']at h
 obtain⟨⟨⟨⟨⟨h1,h2⟩,h3⟩,h4⟩,h5⟩,h6⟩:=h
 have kx:env.kindOf x=some .local:=by
  show env.scope.names.lookup x=_
  split at h1
  ·assumption
  ·cases h1
 have ky:env.kindOf y=some .local:=by
  show env.scope.names.lookup y=_
  split at h2
  ·assumption
  ·cases h2
 have bk:env.blockKind = .function:=by unfold Env.blockKind;rw[hk];rfl
 have hf:∀ e:Expr,aE e=true→(match e with | .Starred _ _=>true | _=>false)=false:=fun e he=>by cases e<;>first | rfl | cases he
 have hA:=hf a pa
 have hB:=hf b pb
 have hl2:py.line=px.line:=(beq_iff_eq.mp (show (px.line == py.line)=true from h3)).symm
 have hxy:(y == x)=false:=by
  rw[beq_eq_false_iff_ne]at h4 ⊢
  exact Ne.symm h4
 have hd:([x,y]:List Str).eraseDups=[x,y]:=by
  rw[List.eraseDups_cons]
  simp[hxy,List.eraseDups_cons]
 unfold swappedStores
 simp[kx,bk,h5,h6,Expr.pos,hA,hB,List.filterMap,ky,hl2,hd]
 rintro (q | q)
 ·cases a<;>first | (cases q;done) | (cases pa;done)
 ·cases b<;>first | (cases q;done) | (cases pb;done)
theorem v8 {elt:Expr} {gs:List Comprehension} {scope:Scope} {pos py:Pos} {y:Str} {l:Nat} {env:PySem.Env} (h:iZ env.scope y=true):swapsWithSole [.Name y py] (.ListComp elt gs scope pos) l env=pure false:=by
 have hn:(env.kindOf y == some .local)=false:=by
  show (env.scope.names.lookup y == some .local)=false
  unfold iZ at h
  split at h
  ·cases h
  ·rename_i z
   rw[beq_eq_false_iff_ne]
   exact z
 show swapsWith (.ListComp elt gs scope pos) (some (.Name y py)) l env=_
 unfold swapsWith
 simp only[hn,Bool.and_false,Bool.false_and]
 try rfl
theorem la {tg v:Expr} {env:PySem.Env} (h:mV tg v=true):swappedStores [tg] v env=pure none:=by
 unfold mV at h
 split at h
 ·unfold swappedStores
  simp only[h,if_true]
  repeat' split
  all_goals rfl
 ·cases h
theorem ny {tg v:Expr} {env:PySem.Env} (h:nj env.scope tg=true):swappedStores [tg] v env=pure none:=by
 unfold nj at h
 split at h
 ·rename_i u x pu v' y pv k pt
  cases v with
  | Tuple vs k2 p2=>
   unfold swappedStores
   simp only[List.filterMap_cons,List.filterMap_nil,List.length_nil,List.length_cons]
   split
   ·rfl
   ·split
    ·rfl
    ·rfl
  | _=>rfl
 ·rename_i x px y py k pt
  cases v with
  | Tuple vs k2 p2=>
   have hn:¬ (env.kindOf x=some .local∧env.kindOf y=some .local):=by
    rintro ⟨h1,h2⟩
    have h1:env.scope.names.lookup x=some .local:=h1
    have h2:env.scope.names.lookup y=some .local:=h2
    rw[h1,h2]at h
    cases h
   unfold swappedStores
   by_cases hx:env.kindOf x=some .local
   ·have hy:¬ env.kindOf y=some .local:=fun z=>hn ⟨hx,z⟩
    simp[hx,hy,List.filterMap,Expr.pos]
   ·by_cases hy:env.kindOf y=some .local<;>by_cases hl:py.line=px.line<;>(simp[hx,hy,hl,List.filterMap,Expr.pos];try (intros;rfl))
  | _=>rfl
 ·cases h
section
variable {W:Wd} {P:Prg} {I:SI} {L:Lk} {c1 c2:Fs} {d:Nat} {N:List Str} {sc:Scope} {X:Cx}
mutual
theorem jV:∀ (e:Ev.S) {x:Stmt},PassesOwn (model X.prog X.w) X.A X.env X.xe→(I.tr=true→NoX X)→CxOk W P I L c1 c2 d N sc (fun _=>true) X→aA I e N sc x=true→PS X x (tS W (cb P c1 c2 e))
 | .asg g e,x,hp,hx,c,h=>by
  unfold aA at h
  split at h
  ·rename_i tg v p
   split at h
   ·rename_i o f u g' q
    simp only[Bool.and_eq_true,beq_iff_eq]at h
    obtain⟨⟨rfl,h2⟩,h3⟩:=h
    exact qh c.xw (al o c h2) (al e c h3) c.ok.cl
   ·rename_i i y py
    split at h
    ·rename_i elt gs scope pv
     cases hcel:iZ sc y with
     | true=>
      rw[hcel]at h
      simp only[cond_true,Bool.and_eq_true]at h
      exact iH (al e c h.1) (bT _ c h.2) (v8 (by rw[c.esc];exact hcel)) (jv (by rfl)) (by rfl)
     | false=>
     rw[hcel]at h
     simp only[cond_false,Bool.and_eq_true,Bool.not_eq_true']at h
     obtain⟨⟨⟨⟨h1,h2⟩,h3⟩,h4⟩,h5⟩:=h
     cases e with
     | comp z own e g it cs=>
      unfold ac at h5
      split at h5
      ·rename_i elt tg iter ifs scope' pos' hx
       cases hx
       simp only[Bool.and_eq_true]at h5
       obtain⟨⟨⟨⟨⟨⟨q1,q2⟩,q3⟩,q4⟩,q5⟩,q6⟩,q7⟩:=h5
       have ok:=L2.blkOk_by q1
       have ok':BlkOk X.N X.env.scope scope (c6 N own):=by rw[c.eN,c.esc];exact ok
       have hyl:X.env.scope.names.lookup y=some .local:=by
        rw[c.esc]
        split at h3
        ·assumption
        ·cases h3
       have hks:∀ i∈vT g,i∈(c6 N own).map (·.2):=fun i hi=>by
        rw[bZ]
        have:=List.all_eq_true.mp q7 i hi
        simpa using this
       have r:=nU (z:=z) (spos:=p) c.xw (by rw[c.eN];exact c.nd) (c.at_ h2) hyl (by rw[c.esc];exact c.kind) h1 h4 (eK it c q2) ok' (fun s H C cl fp=>bT g (c.blk ok s H C cl fp) q4) (fun s H C cl fp=>kX cs (c.blk ok s H C cl fp) q5) (fun s H C cl fp=>al e (c.blk ok s H C cl fp) q6) q3 hks
       rw[bZ]at r
       exact r
      ·cases h5
     | cmpD z own e g it cs=>simp[ac]at h5
     | comp2 z own e g it cs vs1 g1 it1 cs1=>simp[ac]at h5
     | not cc=>cases cc<;>(unfold ac at h5;cases h5)
     | nvr=>exact l8
     | _=>unfold ac at h5;cases h5
    ·simp only[Bool.and_eq_true]at h
     obtain⟨⟨h1,h2⟩,h3⟩:=h
     exact iH (al e c h2) (bT _ c h3) (fM h1) (jv (by rfl)) (by rfl)
   ·simp only[Bool.and_eq_true]at h
    obtain⟨⟨⟨⟨h1,h2⟩,h3⟩,h4⟩,h5⟩:=h
    have hss:swappedStores [tg] v X.env=pure none:=by
     rcases Bool.or_eq_true_iff.mp h2 with q | q
     ·rcases Bool.or_eq_true_iff.mp q with q | q
      ·exact jv q
      ·exact ny (by rw[c.esc];exact q)
     ·exact la q
    refine iH (al e c h4) (bT g c h5) ?_ hss h3
    unfold rJ at h1
    rcases Bool.or_eq_true_iff.mp h1 with q | q
    ·exact fM q
    ·cases tg<;>first | (cases v<;>rfl) | cases q
  ·cases h
 | .par i j a b,x,hp,hx,c,h=>by
  unfold aA at h
  split at h
  ·simp only[Bool.and_eq_true,Bool.not_eq_true']at h
   obtain⟨⟨⟨⟨⟨⟨⟨h1,h2⟩,h3⟩,h4⟩,h5⟩,h6⟩,h7⟩,h8⟩:=h
   have h4':=h4
   unfold ka at h4'
   simp only[Bool.and_eq_true,Bool.not_eq_true']at h4'
   obtain⟨⟨⟨⟨⟨k1,k2⟩,_⟩,_⟩,_⟩,_⟩:=h4'
   refine tf c.xw (by rw[c.eN];exact c.nd) (c.at_ h1) (c.at_ h2) (Nat.ne_of_beq_eq_false h3) ?_ ?_ (al a c h5) (al b c h6) h7 h8 (uV (by rw[c.esc];exact c.kind) (by rw[c.esc];exact h4) h7 h8)
   ·rw[c.esc]
    split at k1
    ·assumption
    ·cases k1
   ·rw[c.esc]
    split at k2
    ·assumption
    ·cases k2
  ·cases h
 | .aug i o e,x,hp,hx,c,h=>by simp[aA]at h
 | .augS o i p e,x,hp,hx,c,h=>by
  unfold aA at h
  split at h
  ·simp only[Bool.and_eq_true,decide_eq_true_eq]at h
   obtain⟨⟨⟨⟨rfl,h2⟩,h3⟩,h4⟩,h5⟩:=h
   exact qm c.xw (al o c h2) (al i c h3) (al e c h5) h4
  ·cases h
 | .augL i e,x,hp,hx,c,h=>by simp[aA]at h
 | .augF o f p e,x,hp,hx,c,h=>by simp[aA]at h
 | .tryT b,x,hp,hx,c,h=>by simp[aA]at h
 | .rai cc m,x,hp,hx,c,h=>by simp[aA]at h
 | .tryF e cc i f,x,hp,hx,c,h=>by simp[aA]at h
 | .exp e,x,hp,hx,c,h=>by
  unfold aA at h
  split at h
  ·rw[Bool.and_eq_true]at h
   exact tZ (al e c h.1) h.2
  ·cases h
 | .ret e,x,hp,hx,c,h=>by
  unfold aA at h
  split at h
  ·exact sQ (al e c h)
  ·cases h
 | .retN,x,hp,hx,c,h=>by
  unfold aA at h
  split at h
  ·exact qB
  ·cases h
 | .iff t a b,x,hp,hx,c,h=>by
  unfold aA at h
  split at h
  ·simp only[Bool.and_eq_true]at h
   exact uy (cH t c h.1.1) (bH a hp hx c h.1.2) (bH b hp hx c h.2)
  ·cases h
 | .whl t b,x,hp,hx,c,h=>by
  unfold aA at h
  split at h
  ·rw[Bool.and_eq_true]at h
   exact uf hp (cH t c h.1) (bH b hp hx c h.2)
  ·cases h
 | .for_ g it b,x,hp,hx,c,h=>by
  unfold aA at h
  split at h
  ·simp only[Bool.and_eq_true]at h
   obtain⟨⟨⟨h1,h2⟩,h3⟩,h4⟩:=h
   exact uA c.xw hp (eK it c h1) (bT g c h3) (bH b hp hx c h4) h2
  ·cases h
 | .repS i j cs z,x,hp,hx,c,h=>by simp[aA]at h
 | .forK g e b,x,hp,hx,c,h=>by
  unfold aA at h
  split at h
  ·simp only[Bool.and_eq_true]at h
   obtain⟨⟨⟨h1,h2⟩,h3⟩,h4⟩:=h
   exact qe c.xw hp (al e c h1) (bT g c h3) (bH b hp hx c h4) h2
  ·cases h
 | .forD g e b,x,hp,hx,c,h=>by simp[aA]at h
 | .setDc i z t own k v g it cs,x,hp,hx,c,h=>by
  unfold aA at h
  split at h
  ·simp only[Bool.and_eq_true,Bool.not_eq_true']at h
   obtain⟨⟨⟨⟨⟨⟨⟨⟨⟨⟨⟨h1,h2⟩,h3⟩,h4⟩,q1⟩,q2⟩,q3⟩,q4⟩,q5⟩,q6⟩,q6'⟩,q7⟩:=h
   rename_i y py kx vx tg iter ifs scope pv pp
   have ok:=L2.blkOk_by q1
   have ok':BlkOk X.N X.env.scope scope (c6 N own):=by rw[c.eN,c.esc];exact ok
   have hyl:X.env.scope.names.lookup y=some .local:=by
    rw[c.esc]
    split at h3
    ·assumption
    ·cases h3
   have hks:∀ j∈vT g,j∈(c6 N own).map (·.2):=fun j hj=>by
    rw[bZ]
    have:=List.all_eq_true.mp q7 j hj
    simpa using this
   have r:=oz (z:=z) (t:=t) (spos:=pp) c.xw (fun s H C cl fp=>⟨c.xw.P,c.xw.w,c.xw.K,c.xw.mg,c.xw.calm,c.xw.un⟩) (by rw[c.eN];exact c.nd) (c.at_ h2) hyl (by rw[c.esc];exact c.kind) h1 h4 (eK it c q2) ok' (fun s H C cl fp=>bT g (c.blk ok s H C cl fp) q4) (fun s H C cl fp=>kX cs (c.blk ok s H C cl fp) q5) (fun s H C cl fp=>al k (c.blk ok s H C cl fp) q6) (fun s H C cl fp=>al v (c.blk ok s H C cl fp) q6') q3 hks
   rw[bZ]at r
   exact r
  ·cases h
 | .setDk i z t own k v g e cs,x,hp,hx,c,h=>by
  unfold aA at h
  split at h
  ·simp only[Bool.and_eq_true,Bool.not_eq_true']at h
   obtain⟨⟨⟨⟨⟨⟨⟨⟨⟨⟨⟨h1,h2⟩,h3⟩,h4⟩,q1⟩,q2⟩,q3⟩,q4⟩,q5⟩,q6⟩,q6'⟩,q7⟩:=h
   rename_i y py kx vx tg iter ifs scope pv pp
   have ok:=L2.blkOk_by q1
   have ok':BlkOk X.N X.env.scope scope (c6 N own):=by rw[c.eN,c.esc];exact ok
   have hyl:X.env.scope.names.lookup y=some .local:=by
    rw[c.esc]
    split at h3
    ·assumption
    ·cases h3
   have hks:∀ j∈vT g,j∈(c6 N own).map (·.2):=fun j hj=>by
    rw[bZ]
    have:=List.all_eq_true.mp q7 j hj
    simpa using this
   have r:=oE (z:=z) (t:=t) (spos:=pp) c.xw (fun s H C cl fp=>⟨c.xw.P,c.xw.w,c.xw.K,c.xw.mg,c.xw.calm,c.xw.un⟩) (by rw[c.eN];exact c.nd) (c.at_ h2) hyl (by rw[c.esc];exact c.kind) h1 h4 (al e c q2) ok' (fun s H C cl fp=>bT g (c.blk ok s H C cl fp) q4) (fun s H C cl fp=>kX cs (c.blk ok s H C cl fp) q5) (fun s H C cl fp=>al k (c.blk ok s H C cl fp) q6) (fun s H C cl fp=>al v (c.blk ok s H C cl fp) q6') q3 hks
   rw[bZ]at r
   exact r
  ·cases h
 | .pass,x,hp,hx,c,h=>by simp[aA]at h
 | .brk,x,hp,hx,c,h=>by simp[aA]at h
 | .cnt,x,hp,hx,c,h=>by
  unfold aA at h
  split at h
  ·exact uk
  ·cases h
 | .nvr,x,hp,hx,c,h=>l8
 | .par3 i j l a b cc,x,hp,hx,c,h=>by simp[aA]at h
 | .raiC cc es,x,hp,hx,c,h=>by simp[aA]at h
 | .raiV cc e,x,hp,hx,c,h=>by simp[aA]at h
 | .tryR e cc o k i,x,hp,hx,c,h=>by simp[aA]at h
 | .tryC r e hs,x,hp,hx,c,h=>by simp[aA]at h
 | .forG cc f nm o g b,x,hp,hx,c,h=>by
  unfold aA at h
  split at h
  ·simp only[Bool.and_eq_true,beq_iff_eq]at h
   obtain⟨⟨⟨⟨⟨⟨⟨⟨rfl,h2⟩,h3⟩,h4⟩,h5⟩,h6⟩,h7⟩,h8⟩,h9⟩:=h
   split at h2
   rotate_left
   ·cases h2
   rename_i f' hm
   have h2:=Nat.eq_of_beq_eq_true h2
   subst h2
   split at h3
   rotate_left
   ·cases h3
   rename_i i hi
   have h3:=Nat.eq_of_beq_eq_true h3
   obtain⟨hc,hme⟩:=c.ok.me _ _ _ hm
   refine qN hp c.xw (al o c h4) hc hme (c.Gn2 hi) h3 c.room ?_ (bT g c h6) (bH b hp hx c h7) (cJ h5 rfl (by decide) (by simpa using h8))
   rw[c.xw.K]
   exact (c.ok.gn _ _ hi).2
  ·cases h
theorem bH:∀ (e:Ss) {l:List Stmt},PassesOwn (model X.prog X.w) X.A X.env X.xe→(I.tr=true→NoX X)→CxOk W P I L c1 c2 d N sc (fun _=>true) X→aW I e N sc l=true→PSs X l (tS W (az P c1 c2 e))
 | .nil,l,hp,hx,c,h=>by
  unfold aW at h
  split at h
  ·exact qO
  ·cases h
 | .cons s r,l,hp,hx,c,h=>by
  unfold aW at h
  split at h
  ·rw[Bool.and_eq_true]at h
   exact oI (jV s hp hx c h.1) (bH r hp hx c h.2)
  ·cases h
 | .iso r,l,hp,hx,c,h=>by
  unfold aW at h
  exact uc (bH r hp hx c h)
end
mutual
theorem y8:∀ (e:Ev.G) {x:Stmt},PassesOwn (model X.prog X.w) X.A X.env X.xe→(I.tr=true→NoX X)→CxOk W P I L c1 c2 d N sc (fun _=>true) X→sc.isCoroutine=false→dF I e N sc x=true→G1 X x (tS W (yj P c1 c2 e))
 | .s s,x,hp,hx,c,hco,h=>by
  unfold dF at h
  exact wh (jV s hp hx c h)
 | .yld e,x,hp,hx,c,hco,h=>by
  unfold dF at h
  split at h
  ·exact ue (al e c h) (by rw[c.esc];exact hco)
  ·cases h
 | .iff t a b,x,hp,hx,c,hco,h=>by
  unfold dF at h
  split at h
  ·simp only[Bool.and_eq_true]at h
   exact sW (cH t c h.1.1) (ig a hp hx c hco h.1.2) (ig b hp hx c hco h.2)
  ·cases h
 | .for_ g it b,x,hp,hx,c,hco,h=>by
  unfold dF at h
  split at h
  ·simp only[Bool.and_eq_true]at h
   obtain⟨⟨⟨⟨h1,h2⟩,h3⟩,h4⟩,h9⟩:=h
   exact tq (hx h9).no c.xw (eK it c h1) (bT g c h3) (ig b hp hx c hco h4) h2
  ·cases h
theorem ig:∀ (e:Gs) {l:List Stmt},PassesOwn (model X.prog X.w) X.A X.env X.xe→(I.tr=true→NoX X)→CxOk W P I L c1 c2 d N sc (fun _=>true) X→sc.isCoroutine=false→cf I e N sc l=true→G1s X l (tS W (iM P c1 c2 e))
 | .nil,l,hp,hx,c,hco,h=>by
  unfold cf at h
  split at h
  ·exact tV
  ·cases h
 | .cons s r,l,hp,hx,c,hco,h=>by
  unfold cf at h
  split at h
  ·rw[Bool.and_eq_true]at h
   exact pM (y8 s hp hx c hco h.1) (ig r hp hx c hco h.2)
  ·cases h
end
mutual
theorem yP:∀ (e:Ev.G) {x:Stmt},PassesOwn (model X.prog X.w) X.A X.env X.xe→(I.tr=true→NoX X)→CxOk W P I L c1 c2 d N sc (fun _=>true) X→sc.isCoroutine=false→dF I e N sc x=true→L2.GS X x (tA W (xE P c1 c2 e))
 | .s s,x,hp,hx,c,hco,h=>by
  unfold dF at h
  exact wX (jV s hp hx c h)
 | .yld e,x,hp,hx,c,hco,h=>by
  unfold dF at h
  split at h
  ·exact tw (al e c h) (by rw[c.esc];exact hco)
  ·cases h
 | .iff t a b,x,hp,hx,c,hco,h=>by
  unfold dF at h
  split at h
  ·simp only[Bool.and_eq_true]at h
   exact uz (cH t c h.1.1) (ii a hp hx c hco h.1.2) (ii b hp hx c hco h.2)
  ·cases h
 | .for_ g it b,x,hp,hx,c,hco,h=>by
  unfold dF at h
  split at h
  ·simp only[Bool.and_eq_true]at h
   obtain⟨⟨⟨⟨h1,h2⟩,h3⟩,h4⟩,h9⟩:=h
   exact tj (hx h9).no c.xw (eK it c h1) (bT g c h3) (ii b hp hx c hco h4) h2
  ·cases h
theorem ii:∀ (e:Gs) {l:List Stmt},PassesOwn (model X.prog X.w) X.A X.env X.xe→(I.tr=true→NoX X)→CxOk W P I L c1 c2 d N sc (fun _=>true) X→sc.isCoroutine=false→cf I e N sc l=true→L2.GSs X l (tA W (fZ P c1 c2 e))
 | .nil,l,hp,hx,c,hco,h=>by
  unfold cf at h
  split at h
  ·exact uu
  ·cases h
 | .cons s r,l,hp,hx,c,hco,h=>by
  unfold cf at h
  split at h
  ·rw[Bool.and_eq_true]at h
   exact qo (yP s hp hx c hco h.1) (ii r hp hx c hco h.2)
  ·cases h
end
end
section
variable {W:Wd} {P:Prg} {I:SI} {L:Lk} {c1 c2:Fs} {d:Nat} {N:List Str} {sc:Scope} {X:Cx} {Ex:XK}
structure RxX (X:Cx) (Ex:XK):Prop where
 po:PassesOwn (model X.prog X.w) X.A X.env X.xe
 st:X.stack=X.env :: X.outer
 fr:X.env.frame=some X.env.locals
 tk:L2N.Takes X fun cls d _ H=>Ex cls d H
theorem RxX.pa (r:RxX X Ex) (σ:L2.St):PassesAt (L2N.CX X.prog X.w) X σ Ex:=L2N.passAt r.tk σ
theorem RxX.own (r:RxX X Ex):Own X fun _=>Ex:=⟨r.st,r.fr,r.tk⟩
theorem RxX.nx (r:RxX X Ex):NoX X.nox:=⟨fun _ _ z=>z,r.st,r.fr⟩
theorem oH {x:Stmt} {t:TS} (h:PS X.nox x t):PS X x t:=⟨fun pins s σ H D I hw=>
 wpAny_mono (h.run pins s σ H D (I.wish _) hw) (fun _ _ q=>q.unwish) fun _ _ z=>False.elim z⟩
mutual
theorem xg:∀ (e:Ev.S) {x:Stmt},RxX X Ex→CxOk W P I L c1 c2 d N sc (fun _=>true) X→aA I e N sc x=true→PS X x (bE W (fU P c1 c2 e) Ex):=by
 intro e x r c h
 cases e with
 | exp e=>
  unfold aA at h
  split at h
  ·rw[Bool.and_eq_true]at h
   exact vA (dP e true c r.pa (fun _=>r.own) h.1) (eW h.2)
  ·cases h
 | ret e=>
  unfold aA at h
  split at h
  ·exact uM (dP e true c r.pa (fun _=>r.own) h)
  ·cases h
 | iff t a b=>
  unfold aA at h
  split at h
  ·simp only[Bool.and_eq_true]at h
   exact uJ (cH t c h.1.1) (gj a r c h.1.2) (gj b r c h.2)
  ·cases h
 | for_ g it b=>
  unfold aA at h
  split at h
  ·simp only[Bool.and_eq_true]at h
   obtain⟨⟨⟨h1,h2⟩,h3⟩,h4⟩:=h
   exact jG c.xw r.po (eK it c h1) (bT g c h3) (L2.PSs.nox (bH b PassesOwn.never (fun _=>r.nx) (c.wish _) h4)) (gj b r c h4) h2
  ·cases h
 | rai cc m=>simp[aA]at h
 | raiV cc e=>simp[aA]at h
 | whl t b=>
  unfold aA at h
  split at h
  ·simp only[Bool.and_eq_true]at h
   exact qH c.xw r.po (cH t c h.1) (L2.PSs.nox (bH b PassesOwn.never (fun _=>r.nx) (c.wish _) h.2)) (gj b r c h.2)
  ·cases h
 | raiC cc es=>simp[aA]at h
 | forG cc f nm o g b=>
  unfold aA at h
  split at h
  ·simp only[Bool.and_eq_true,beq_iff_eq]at h
   obtain⟨⟨⟨⟨⟨⟨⟨⟨rfl,h2⟩,h3⟩,h4⟩,h5⟩,h6⟩,h7⟩,h8⟩,h9⟩:=h
   split at h2
   rotate_left
   ·cases h2
   rename_i f' hm
   have h2:=Nat.eq_of_beq_eq_true h2
   subst h2
   split at h3
   rotate_left
   ·cases h3
   rename_i i hi
   have h3:=Nat.eq_of_beq_eq_true h3
   obtain⟨hc,hme⟩:=c.ok.me _ _ _ hm
   exact wB r.po c.xw (al o c h4) hc hme (c.Gn2 hi) h3 c.room (by rw[c.xw.K];exact (c.ok.gn _ _ hi).2) (bT g c h6) (gj b r c h7) (cJ h5 rfl (by decide) (by simpa using h8))
  ·cases h
 | asg g e=>
  cases g with
  | fld o f=>
   have er:fU P c1 c2 (.asg (.fld o f) e)=bh P c1 c2 true e:=rfl
   rw[er]
   unfold aA at h
   split at h
   rotate_left
   ·cases h
   split at h
   ·simp only[Bool.and_eq_true]at h
    have he:=dP e true c r.pa (fun _=>r.own) h.2
    exact⟨fun pins s σ H D I hw=>plainObj_wpAny_Assign_Attribute (L2.thn (he.run pins s σ H (fun _ _=>False) I hw) fun v s1 ⟨_,_,_,_,z⟩=>z.elim) (by rename_i vv _ _ _ _ _ _ _ _ _;cases vv<;>rfl)⟩
   ·rename_i q
    cases q
   ·simp only[Bool.and_eq_true]at h
    exfalso
    have h5:=h.2
    unfold bv at h5
    split at h5
    ·rename_i z _
     exact z _ _ _ _ _ rfl rfl
    ·cases h5
  | var i=>
   cases hm:cM e with
   | false=>exact⟨fun pins s σ H D I hw=>by
     obtain⟨_,_,_,_,_,_,_,_,_,z,_⟩:=hw
     simp only[fU,hm,cond_false]at z
     cases z⟩
   | true=>
    have er:fU P c1 c2 (.asg (.var i) e)=bh P c1 c2 true e:=by
     funext env h
     simp only[fU,hm,cond_true]
    rw[er]
    have key:∀ {tg v p},x = .Assign [tg] v p→jh v=true→ac I e N sc (fun _=>true) v=true→bv I (.var i) N sc (fun _=>true) tg=true→PS X x (bE W (bh P c1 c2 true e) Ex):=fun {tg v p} ex h1 h2 h3=>by
     subst ex
     unfold bv at h3
     split at h3
     rotate_left
     ·cases h3
     simp only[Bool.and_eq_true]at h3
     obtain⟨⟨q1,q2⟩,q3⟩:=h3
     exact vo (by rw[c.eN];exact c.nd) (c.at_ q1) (c.loc q2) (dP e true c r.pa (fun _=>r.own) h2) (eW h1) (c.sto q3)
    unfold aA at h
    split at h
    rotate_left
    ·cases h
    rename_i tg v p
    split at h
    ·rename_i q;cases q
    ·rename_i i' y py q
     split at h
     ·rename_i elt gs scope pv
      exfalso
      have hz:ac I e N sc (fun _=>true) (.ListComp elt gs scope pv)=true:=by
       cases hcel:iZ sc y with
       | true=>
        rw[hcel]at h
        simp only[cond_true,Bool.and_eq_true]at h
        exact h.1
       | false=>
        rw[hcel]at h
        simp only[cond_false,Bool.and_eq_true,Bool.not_eq_true']at h
        exact h.2
      cases e<;>first | (cases hm;done) | (unfold ac at hz;cases hz)
     ·simp only[Bool.and_eq_true]at h
      obtain⟨⟨h1,h2⟩,h3⟩:=h
      exact key rfl h1 h2 h3
    ·rename_i n1 n2
     simp only[Bool.and_eq_true]at h
     obtain⟨⟨⟨⟨h1,h2⟩,h3⟩,h4⟩,h5⟩:=h
     exfalso
     unfold bv at h5
     split at h5
     ·rename_i y py
      exact n2 i y py rfl rfl
     ·cases h5
  | tup ts=>
   cases hm:cM e with
   | false=>exact⟨fun pins s σ H D I hw=>by
     obtain⟨_,_,_,_,_,_,_,_,_,z,_⟩:=hw
     simp only[fU,hm,cond_false]at z
     cases z⟩
   | true=>
    have er:fU P c1 c2 (.asg (.tup ts) e)=bh P c1 c2 true e:=by
     funext env h
     simp only[fU,hm,cond_true]
    rw[er]
    have key:∀ {tg:Expr} {v:Expr} {p:Pos},x = .Assign [tg] v p→rJ tg v=true→(vH tg||uL v||nj sc tg||mV tg v)=true→aE tg=true→ac I e N sc (fun _=>true) v=true→bv I (.tup ts) N sc (fun _=>true) tg=true→PS X x (bE W (bh P c1 c2 true e) Ex):=fun {tg v p} ex h1 h2 h3 h4 h5=>by
     subst ex
     have hss:swappedStores [tg] v X.env=pure none:=by
      rcases Bool.or_eq_true_iff.mp h2 with q | q
      ·rcases Bool.or_eq_true_iff.mp q with q | q
       ·exact jv q
       ·exact ny (by rw[c.esc];exact q)
      ·exact la q
     have hsw:swapsWithSole [tg] v p.line X.env=pure false:=by
      unfold rJ at h1
      rcases Bool.or_eq_true_iff.mp h1 with q | q
      ·exact fM q
      ·cases tg<;>first | (cases v<;>rfl) | cases q
     have he:=dP e true c r.pa (fun _=>r.own) h4
     have hg:=bT (.tup ts) c h5
     exact⟨fun pins s σ H D I hw=>(L2.ps_asg he hg hsw hss (by rw[bQ h3]<;>rfl)).run pins s σ H D I hw⟩
    unfold aA at h
    split at h
    rotate_left
    ·cases h
    split at h
    ·rename_i q;cases q
    ·rename_i q;cases q
    ·simp only[Bool.and_eq_true]at h
     obtain⟨⟨⟨⟨h1,h2⟩,h3⟩,h4⟩,h5⟩:=h
     exact key rfl h1 (by simpa using h2) h3 h4 h5
  | _=>exact eF
 | _=>exact eF
theorem gj:∀ (e:Ss) {l:List Stmt},RxX X Ex→CxOk W P I L c1 c2 d N sc (fun _=>true) X→aW I e N sc l=true→PSs X l (bE W (eC P c1 c2 e) Ex):=by
 intro e l r c h
 cases e with
 | cons s t=>
  unfold aW at h
  split at h
  rotate_left
  ·cases h
  rw[Bool.and_eq_true]at h
  refine PSs.orR (qS (xg s r c h.1) (L2.PSs.nox (bH t PassesOwn.never (fun _=>r.nx) (c.wish _) h.2))) (qW (oH (jV s PassesOwn.never (fun _=>r.nx) (c.wish _) h.1)) (gj t r c h.2))
 | _=>exact ja
end
end
section
variable {W:Wd} {P:Prg} {I:SI} {L:Lk} {c1 c2:Fs} {d:Nat} {N:List Str} {sc:Scope} {X:Cx} {Ex:XK}
structure RxH (X:Cx) (Ex:XK):Prop where
 po:PassesOwn (model X.prog X.w) X.A X.env X.xe
 st:X.stack=X.env :: X.outer
 fr:X.env.frame=some X.env.locals
 tk:L2.Takes X fun cls d _ H=>Ex cls d H
 pa2:∀ hd:Option Value,PassesOwnAt (model X.prog X.w) (X.A.mark hd) X.A X.env X.xe
theorem RxH.rx (r:RxH X Ex):RxX X Ex:=⟨r.po,r.st,r.fr,vR r.tk⟩
theorem RxH.pa (r:RxH X Ex) (σ:L2.St):PassesAt (L2.CX X.prog X.w) X σ Ex:=L2.passAt r.tk σ
theorem oQ (e:E) {x:Expr} (r:RxH X Ex) (c:CxOk W P I L c1 c2 d N sc (fun _=>true) X) (h:ac I e N sc (fun _=>true) x=true):
  PE X x (rE W (fun env h=>orR (bh P c1 c2 true e env h).isNone (bh P c1 c2 true e env h) (e9 P c1 c2 e env h)) fun _=>Ex):=
 PE.orR (dP e true c r.rx.pa (fun _=>r.rx.own) h) (vX e c r.pa h)
mutual
theorem yS:∀ (e:Ev.S) {x:Stmt},RxH X Ex→CxOk W P I L c1 c2 d N sc (fun _=>true) X→aA I e N sc x=true→PS X x (bE W (nD P c1 c2 e) Ex):=by
 intro e x r c h
 cases e with
 | exp e=>
  unfold aA at h
  split at h
  ·rw[Bool.and_eq_true]at h
   exact vA (oQ e r c h.1) (eW h.2)
  ·cases h
 | ret e=>
  unfold aA at h
  split at h
  ·exact uM (oQ e r c h)
  ·cases h
 | raiC cc es=>exact xg (.raiC cc es) r.rx c h
 | iff t a b=>
  unfold aA at h
  split at h
  ·simp only[Bool.and_eq_true]at h
   exact uJ (cH t c h.1.1) (hU a r c h.1.2) (hU b r c h.2)
  ·cases h
 | for_ g it b=>
  unfold aA at h
  split at h
  ·simp only[Bool.and_eq_true]at h
   obtain⟨⟨⟨h1,h2⟩,h3⟩,h4⟩:=h
   exact jG c.xw r.po (eK it c h1) (bT g c h3) (L2.PSs.nox (bH b PassesOwn.never (fun _=>r.rx.nx) (c.wish _) h4)) (hU b r c h4) h2
  ·cases h
 | tryR e cc o k i=>simp[aA]at h
 | asg g e=>
  cases g with
  | var i=>
   cases hm:cM e with
   | false=>exact⟨fun pins s σ H D I hw=>by
     obtain⟨_,_,_,_,_,_,_,_,_,z,_⟩:=hw
     simp only[nD,hm,cond_false]at z
     cases z⟩
   | true=>
    have er:nD P c1 c2 (.asg (.var i) e)=fun env h=>orR (bh P c1 c2 true e env h).isNone (bh P c1 c2 true e env h) (e9 P c1 c2 e env h):=by
     funext env h
     simp only[nD,hm,cond_true]
    rw[er]
    have key:∀ {tg v p},x = .Assign [tg] v p→jh v=true→ac I e N sc (fun _=>true) v=true→bv I (.var i) N sc (fun _=>true) tg=true→PS X x (bE W (fun env h=>orR (bh P c1 c2 true e env h).isNone (bh P c1 c2 true e env h) (e9 P c1 c2 e env h)) Ex):=fun {tg v p} ex h1 h2 h3=>by
     subst ex
     unfold bv at h3
     split at h3
     rotate_left
     ·cases h3
     simp only[Bool.and_eq_true]at h3
     obtain⟨⟨q1,q2⟩,q3⟩:=h3
     exact vo (by rw[c.eN];exact c.nd) (c.at_ q1) (c.loc q2) (oQ e r c h2) (eW h1) (c.sto q3)
    unfold aA at h
    split at h
    rotate_left
    ·cases h
    rename_i tg v p
    split at h
    ·rename_i q;cases q
    ·rename_i i' y py q
     split at h
     ·rename_i elt gs scope pv
      exfalso
      have hz:ac I e N sc (fun _=>true) (.ListComp elt gs scope pv)=true:=by
       cases hcel:iZ sc y with
       | true=>
        rw[hcel]at h
        simp only[cond_true,Bool.and_eq_true]at h
        exact h.1
       | false=>
        rw[hcel]at h
        simp only[cond_false,Bool.and_eq_true,Bool.not_eq_true']at h
        exact h.2
      cases e<;>first | (cases hm;done) | (unfold ac at hz;cases hz)
     ·simp only[Bool.and_eq_true]at h
      obtain⟨⟨h1,h2⟩,h3⟩:=h
      exact key rfl h1 h2 h3
    ·rename_i n1 n2
     simp only[Bool.and_eq_true]at h
     obtain⟨⟨⟨⟨h1,h2⟩,h3⟩,h4⟩,h5⟩:=h
     exfalso
     unfold bv at h5
     split at h5
     ·rename_i y py
      exact n2 i y py rfl rfl
     ·cases h5
  | _=>exact eF
 | _=>exact eF
theorem hU:∀ (e:Ss) {l:List Stmt},RxH X Ex→CxOk W P I L c1 c2 d N sc (fun _=>true) X→aW I e N sc l=true→PSs X l (bE W (gq P c1 c2 e) Ex):=by
 intro e l r c h
 cases e with
 | cons s t=>
  unfold aW at h
  split at h
  rotate_left
  ·cases h
  rw[Bool.and_eq_true]at h
  refine PSs.orR (qS (yS s r c h.1) (L2.PSs.nox (bH t PassesOwn.never (fun _=>r.rx.nx) (c.wish _) h.2))) (qW (oH (jV s PassesOwn.never (fun _=>r.rx.nx) (c.wish _) h.1)) (hU t r c h.2))
 | _=>exact ja
end
end
open L2 (upd upd_same upd_ne ne_of ne_of_none Cx VK Inv RelV HOk PE PT PA PW TE TT TA PO thn CX0 pass0 Room FnOk Gl Binds Cls Meth Mk Loc Vis PS PSs Ends TS FunD FnScope)
structure FnT where
 x:Str
 qual:Str
 params:Arguments
 body:List Stmt
 scope:Scope
 N:List Str
structure FOk (W:Wd) (P:Prg) (I:SI) (L:Lk) (T:Nat→FnT):Prop where
 fd:∀ f i,(I.fi f=some i∨I.di f=some i)→∃ kws,FunD W.K (T f).x (T f).qual (T f).params (T f).body (T f).scope [] kws (L.fA f) (L.fD f)
 sc:∀ f i,(I.fi f=some i∨I.di f=some i)→FnScope (T f).N i.ps (T f).scope
 bd:∀ f i,(I.fi f=some i∨I.di f=some i)→∃ k,P.fns f=some k∧aW I k.body (T f).N (T f).scope (T f).body=true∧k.np=i.ps.length∧k.ns=(T f).N.length
 rfd:∀ f i,I.ri f=some i→FunD W.K (T f).x (T f).qual (T f).params (T f).body (T f).scope [] [] (L.fA f) (L.fD f)
 rsc:∀ f i,I.ri f=some i→FnScope (T f).N i.ps (T f).scope
 rbd:∀ f i,I.ri f=some i→∃ k,P.fns f=some k∧aW { I with rep:=true } k.body (T f).N (T f).scope (T f).body=true∧k.np=i.ps.length∧k.ns=(T f).N.length
 gfd:∀ f i,I.gi f=some i→FunD W.K (T f).x (T f).qual (T f).params (T f).body (T f).scope [] [] (L.fA f) (L.fD f)
 gsc:∀ f i,I.gi f=some i→L2.GScope (T f).N i.ps (T f).scope
 gbd:∀ f i,I.gi f=some i→P.fns f=none∧∃ k,P.gns f=some k∧cf I k.body (T f).N (T f).scope (T f).body=true∧k.np=i.ps.length∧k.ns=(T f).N.length
 sfd:∀ f,I.sti f=true→FunD W.K (T f).x (T f).qual (T f).params (T f).body (T f).scope [] [] (L.fA f) (L.fD f)
 ssc:∀ f,I.sti f=true→∃ p0 pv,FnScope (T f).N ([p0]++[pv]) (T f).scope∧∀ us rest:List Value,us.length=1→bindArgs (L.fD f) ⟨us++rest,[]⟩=(newTuple rest >>= fun t=>pure ([p0].zip us++[(pv,t)]))
 sbd:∀ f,I.sti f=true→∃ k,P.fns f=some k∧aW I k.body (T f).N (T f).scope (T f).body=true∧k.np=2∧k.ns=(T f).N.length
 xf:∀ f,P.xfn f=true→(I.fi f).isSome=true
 xd:∀ f,P.xdn f=true→(I.di f).isSome=true
 xno:∀ f i,(I.fi f=some i∨I.di f=some i)→f < 1000∧P.fns (10000 + f)=none∧P.gns (10000 + f)=none
 hh:∀ f,P.xhf f=true→(I.fi f).isSome=true
 hno:∀ f,f < 1000→P.fns (20000 + f)=none∧P.gns (20000 + f)=none∧P.xfn (10000 + f)=false∧P.xdn (10000 + f)=false
 gno:∀ f i,I.gi f=some i→P.fns (5000 + f)=none∧P.gns (5000 + f)=none∧P.fns (6000 + f)=none∧P.gns (6000 + f)=none∧f < 1000
section
variable {W:Wd} {P:Prg} {I:SI} {L:Lk} {T:Nat→FnT}
theorem ci (F:FOk W P I L T) {f i} (h:I.fi f=some i∨I.di f=some i):∀ d,Ar i.ps.length (call P d f)
 | 0=>fun vs h r e=>by cases e
 | d + 1=>fun vs h' r e=>by
  have e:aL P (aj P d).1 (aj P d).2 f vs h' = some r:=e
  obtain⟨k,hk,_,hnp,_⟩:=F.bd f i h
  unfold aL at e
  rw[hk]at e
  dsimp only at e
  split at e
  ·rename_i hl
   rw[hl,hnp]
  ·cases e
theorem cI (F:FOk W P I L T) {f i} (h:I.ri f=some i):∀ d,Ar i.ps.length (call P d f)
 | 0=>fun vs h r e=>by cases e
 | d + 1=>fun vs h' r e=>by
  have e:aL P (aj P d).1 (aj P d).2 f vs h' = some r:=e
  obtain⟨k,hk,_,hnp,_⟩:=F.rbd f i h
  unfold aL at e
  rw[hk]at e
  dsimp only at e
  split at e
  ·rename_i hl
   rw[hl,hnp]
  ·cases e
theorem jp:∀ n,(aM n).length=n
 | 0=>rfl
 | n + 1=>by simp[aM,jp n]
theorem jg:∀ (n i:Nat),av (aM n) i=none
 | 0,i=>by simp[aM,av]
 | n + 1,0=>by simp[aM,av]
 | n + 1,i + 1=>by simp[aM,av,jg n i]
theorem bA {H:HH} {S:Addr→Prop} {ρ:aq}:∀ {ds:List D} {vs:List L2.V} {n m:Nat},RVs W H S ρ ds vs→n=m→RE W H S ρ (ds.map some++aM n) (vs.map some++List.replicate m none):=by
 intro ds vs n m r e
 subst e
 refine⟨by simp[jp,r.len],?_⟩
 have:∀ (ds:List D) (vs:List L2.V) (i:Nat) (d:D),RVs W H S ρ ds vs→av (ds.map some++aM n) i=some d→∃ v,(vs.map some++List.replicate n none)[i]? = some (some v)∧RV W H S ρ d v:=by
  intro ds
  induction ds with
  | nil=>intro vs i d r e;simp[jg]at e
  | cons x xs ih=>
   intro vs i d r e
   cases r with
   | cons a t=>
    cases i with
    | zero=>simp[av]at e;subst e;exact⟨_,rfl,a⟩
    | succ i=>
     obtain⟨v,h1,h2⟩:=ih _ i d t e
     exact⟨v,h1,h2⟩
 exact fun i d e=>this ds vs i d r e
theorem fX {f:Nat} {ps:List Str} {fd:FuncData} {k:Nat} {a:Addr}:FnOk W.P W.w W.K W.mg L.base CX0 k a fd ps (be W ps.length fun _ _=>none):=
 ⟨fun vs H Q E h=>h.1,fun A outer s H args us vs Q E hr he hb hv hs=>by
  obtain⟨_,S,ρ,h,ds,d,h',_,_,e,_⟩:=hs
  cases e⟩
theorem qL {k:Nat} {a:Addr}:L2.FnR W.P W.w W.K W.mg L.base CX0 k a (u4 W fun _ _=>none):=fun A outer s H us vs Q E hr e0 r hs=>by
 obtain⟨ws,rest,_,_,_,q⟩:=hs
 obtain⟨_,S,ρ,h,ds,d,h',_,_,e,_⟩:=q _ (e0.hok.fresh (Nat.le_refl _))
 cases e
theorem gL {f:Nat} {ps:List Str} {fd:FuncData} {k:Nat} {a:Addr}:GFn1 W.P W.w W.K W.mg L.base k a fd ps (jM W ps.length fun _ _=>none):=
 ⟨fun vs H Qy Qn h=>h.1,fun A outer s H args us vs Qy Qn hr he hb hv hs=>by
  obtain⟨_,S,ρ,h,ds,d,h',_,_,e,_⟩:=hs
  cases e⟩
theorem kM {ps:List Str} {fd:FuncData} {k:Nat} {a:Addr}:FnOk W.P W.w W.K W.mg L.base (L2N.CX W.P W.w) k a fd ps (cB W ps.length fun _ _=>none):=
 ⟨fun vs H Q E h=>h.1,fun A outer s H args us vs Q E hr he hb hv hs=>by
  obtain⟨_,S,ρ,h,ds,c,fs,h',_,_,e,_⟩:=hs
  cases e⟩
theorem rV {f:Nat} (hf:f < 1000) (c1 c2:Fs) (h1:P.fns (10000 + f)=none) (h2:P.gns (10000 + f)=none) (vs:List D) (h:Mm):aL P c1 c2 (10000 + f) vs h=bif P.xfn f||P.xdn f then (match P.fns f with
    | some k=>if vs.length=k.np then (match eC P c1 c2 k.body (vs.map some++aM (k.ns - k.np)) h with
     | some (c,fs,h')=>some (.ins c fs,h')
     | none=>none) else none
    | none=>none) else none:=by
 unfold aL
 rw[h1,h2]
 have b:Nat.ble 10000 (10000 + f)=true:=Nat.ble_eq_true_of_le (by omega)
 have e:10000 + f - 10000=f:=by omega
 have b2:Nat.ble 20000 (10000 + f)=false:=by
  cases q:Nat.ble 20000 (10000 + f) with
  | false=>rfl
  | true=>have:=Nat.le_of_ble_eq_true q;omega
 simp only[b,b2,cond_true,Bool.false_and,cond_false,e]
 all_goals rfl
theorem rY (F:FOk W P I L T) {f:Nat} (hf:f < 1000) (c1 c2:Fs) (vs:List D) (h:Mm):aL P c1 c2 (20000 + f) vs h=bif P.xhf f then (match P.fns f with
    | some k=>if vs.length=k.np then (match gq P c1 c2 k.body (vs.map some++aM (k.ns - k.np)) h with
     | some (c,fs,h')=>some (.ins c fs,h')
     | none=>none) else none
    | none=>none) else none:=by
 obtain⟨h1,h2,h3,h4⟩:=F.hno f hf
 unfold aL
 rw[h1,h2]
 have b:Nat.ble 10000 (20000 + f)=true:=Nat.ble_eq_true_of_le (by omega)
 have e:20000 + f - 10000=10000 + f:=by omega
 have b2:Nat.ble 20000 (20000 + f)=true:=Nat.ble_eq_true_of_le (by omega)
 have e2:20000 + f - 20000=f:=by omega
 simp only[b,b2,cond_true,e,e2,h3,h4,Bool.or_false,cond_false,Bool.true_and]
 all_goals rfl
theorem cC (F:FOk W P I L T) {f i} (h:I.fi f=some i):∀ d,∀ vs h q,bu (call P d (20000 + f) vs h)=some q→vs.length=i.ps.length
 | 0=>fun vs h q e=>by cases e
 | d + 1=>fun vs h' q e=>by
  obtain⟨hl,_,_⟩:=F.xno f i (.inl h)
  have e:bu (aL P (aj P d).1 (aj P d).2 (20000 + f) vs h')=some q:=e
  rw[rY F hl]at e
  obtain⟨k,hk,_,hnp,_⟩:=F.bd f i (.inl h)
  rw[hk]at e
  dsimp only at e
  cases hx:P.xhf f with
  | false=>rw[hx]at e;cases e
  | true=>
   rw[hx]at e
   simp only[cond_true]at e
   split at e
   ·rename_i hl
    rw[hl,hnp]
   ·cases e
theorem pV {ps:List Str} {fd:FuncData} {k:Nat} {a:Addr}:FnOk W.P W.w W.K W.mg L.base (L2.CX W.P W.w) k a fd ps (cB W ps.length fun _ _=>none):=
 ⟨fun vs H Q E h=>h.1,fun A outer s H args us vs Q E hr he hb hv hs=>by
  obtain⟨_,S,ρ,h,ds,c,fs,h',_,_,e,_⟩:=hs
  cases e⟩
theorem bW (F:FOk W P I L T) {f i} (h:I.fi f=some i∨I.di f=some i):∀ d,∀ vs h q,bu (call P d (10000 + f) vs h)=some q→vs.length=i.ps.length
 | 0=>fun vs h q e=>by cases e
 | d + 1=>fun vs h' q e=>by
  obtain⟨hl,x1,x2⟩:=F.xno f i h
  have e:bu (aL P (aj P d).1 (aj P d).2 (10000 + f) vs h')=some q:=e
  rw[rV hl _ _ x1 x2]at e
  obtain⟨k,hk,_,hnp,_⟩:=F.bd f i h
  rw[hk]at e
  dsimp only at e
  cases hx:(P.xfn f||P.xdn f) with
  | false=>rw[hx]at e;cases e
  | true=>
   rw[hx]at e
   simp only[cond_true]at e
   split at e
   ·rename_i hl
    rw[hl,hnp]
   ·cases e
theorem jz (F:FOk W P I L T) {g j} (hj:I.gi g=some j) (d:Nat) (vs:List D) (h:Mm):(aj P (d + 2)).2 (6000 + g) vs h=(aj P d).2 (5000 + g) vs h:=by
 obtain⟨_,_,h3,h4,hlt⟩:=F.gno g j hj
 show aL P (aj P d).1 (aj P d).2 (6000 + g) vs h=_
 unfold aL
 rw[h3,h4]
 have b:Nat.ble 6000 (6000 + g)=true:=Nat.ble_eq_true_of_le (by omega)
 have b0:Nat.ble 10000 (6000 + g)=false:=by
  cases q:Nat.ble 10000 (6000 + g) with
  | false=>rfl
  | true=>have:=Nat.le_of_ble_eq_true q;omega
 have e:6000 + g - 1000=5000 + g:=by omega
 simp only[b0,cond_false,b,cond_true,e]
theorem wL (F:FOk W P I L T) {g j} (hj:I.gi g=some j) {k:Gn} (hk:P.gns g=some k) (d:Nat) (vs:List D) (h:Mm):call P (d + 1) (5000 + g) vs h=if vs.length=k.np then (match fZ P (call P d) (aj P d).2 k.body (vs.map some++aM (k.ns - k.np)) h with
  | some (.nx,os,_,h')=>some (.tup os,h')
  | _=>none) else none:=by
 obtain⟨h1,h2,_,_,hl⟩:=F.gno g j hj
 show aL P (aj P d).1 (aj P d).2 (5000 + g) vs h=_
 unfold aL
 rw[h1,h2]
 have b:Nat.ble 6000 (5000 + g)=false:=by
  cases q:Nat.ble 6000 (5000 + g) with
  | false=>rfl
  | true=>have:=Nat.le_of_ble_eq_true q;omega
 have b5:Nat.ble 5000 (5000 + g)=true:=Nat.ble_eq_true_of_le (by omega)
 have b0:Nat.ble 10000 (5000 + g)=false:=by
  cases q:Nat.ble 10000 (5000 + g) with
  | false=>rfl
  | true=>have:=Nat.le_of_ble_eq_true q;omega
 have e:5000 + g - 5000=g:=by omega
 simp only[b0,b,cond_false,e,hk,b5,cond_true]
 rfl
theorem lp {d:Nat} (ih:∀ d',d=d' + 1→∀ f i,(I.fi f=some i∨I.di f=some i)→FnOk W.P W.w W.K W.mg L.base (L2N.CX W.P W.w) (d' + 2) (L.fA f) (L.fD f) i.ps (cB W i.ps.length fun vs h=>bu (call P d' (10000 + f) vs h))):
  ∀ g j,I.fi g=some j→FnOk W.P W.w W.K W.mg L.base (L2N.CX W.P W.w) (d + 1) (L.fA g) (L.fD g) j.ps (cB W j.ps.length fun vs h=>bu ((aj P d).2 (10000 + g) vs h)):=fun g j hj=>by
 cases d with
 | zero=>exact kM
 | succ d'=>exact ih d' rfl g j (.inl hj)
theorem j5 (F:FOk W P I L T) (d:Nat):∀ g j,I.fi g=some j→∀ vs h q,bu ((aj P d).2 (10000 + g) vs h)=some q→vs.length=j.ps.length:=fun g j hj=>by
 cases d with
 | zero=>exact fun vs h q e=>by cases e
 | succ d'=>exact bW F (.inl hj) d'
theorem bx (hrep:I.rep=false) (ok:SIok W P I L) (F:FOk W P I L T):∀ d,(∀ f i,(I.fi f=some i∨I.di f=some i)→FnOk W.P W.w W.K W.mg L.base CX0 (d + 2) (L.fA f) (L.fD f) i.ps (be W i.ps.length (call P d f))) ∧
  (∀ f i,I.gi f=some i→GFn1 W.P W.w W.K W.mg L.base (d + 2) (L.fA f) (L.fD f) i.ps (jM W i.ps.length (call P d f))) ∧
  (∀ f i,I.gi f=some i→L2.GFn W.P W.w W.K W.mg L.base (d + 2) (L.fA f) (L.fD f) i.ps (nY W i.ps.length (call P d (5000 + f)))) ∧
  (∀ f,I.sti f=true→L2.FnR W.P W.w W.K W.mg L.base CX0 (d + 2) (L.fA f) (u4 W (call P d f))) ∧
  (∀ f i,(I.fi f=some i∨I.di f=some i)→FnOk W.P W.w W.K W.mg L.base (L2N.CX W.P W.w) (d + 2) (L.fA f) (L.fD f) i.ps (cB W i.ps.length fun vs h=>bu (call P d (10000 + f) vs h))) ∧
  ∀ f i,I.fi f=some i→FnOk W.P W.w W.K W.mg L.base (L2.CX W.P W.w) (d + 2) (L.fA f) (L.fD f) i.ps (cB W i.ps.length fun vs h=>bu (call P d (20000 + f) vs h))
 | 0=>⟨fun f i h=>fX (f:=f),fun f i h=>gL (f:=f),fun f i h=>pZ fun _ _=>rfl,fun f h=>qL,fun f i h=>kM,fun f i h=>pV⟩
 | d + 1=>by
  have ih:=bx hrep ok F d
  have f2:∀ g j,I.fi g=some j→FnOk W.P W.w W.K W.mg L.base CX0 (d + 1) (L.fA g) (L.fD g) j.ps (be W j.ps.length ((aj P d).2 g)):=fun g j hj=>by
   cases d with
   | zero=>exact fX (f:=g)
   | succ d'=>exact (bx hrep ok F d').1 g j (.inl hj)
  have g2:∀ g j,I.gi g=some j→GFn1 W.P W.w W.K W.mg L.base (d + 1) (L.fA g) (L.fD g) j.ps (jM W j.ps.length ((aj P d).2 g)):=fun g j hj=>by
   cases d with
   | zero=>exact gL (f:=g)
   | succ d'=>exact (bx hrep ok F d').2.1 g j hj
  have gA:∀ g j,I.gi g=some j→(∃ k,k + 3≤d + 2∧L2.GFn W.P W.w W.K W.mg L.base k (L.fA g) (L.fD g) j.ps (nY W j.ps.length ((aj P d).2 (6000 + g))))∨∀ vs h,(aj P d).2 (6000 + g) vs h=none:=fun g j hj=>by
   match d with
   | 0=>exact .inr fun _ _=>rfl
   | 1=>exact .inr fun _ _=>rfl
   | 2=>
    refine .inr fun vs h=>?_
    exact jz F hj 0 vs h
   | d' + 3=>
    refine .inl ⟨d' + 2,by omega,?_⟩
    have e:(aj P (d' + 3)).2 (6000 + g)=call P d' (5000 + g):=funext fun vs=>funext fun h=>jz F hj (d' + 1) vs h
    rw[e]
    exact (bx hrep ok F d').2.2.1 g j hj
  have a2:∀ g j,I.fi g=some j→Ar j.ps.length ((aj P d).2 g):=fun g j hj=>by
   cases d with
   | zero=>exact fun vs h r e=>by cases e
   | succ d'=>exact ci F (.inl hj) d'
  have xx2:∀ g j,I.fi g=some j→FnOk W.P W.w W.K W.mg L.base (L2N.CX W.P W.w) (d + 1) (L.fA g) (L.fD g) j.ps (cB W j.ps.length fun vs h=>bu ((aj P d).2 (10000 + g) vs h)):=lp (fun d' hd g j hj=>by subst hd;exact (bx hrep ok F d').2.2.2.2.1 g j hj)
  have ax2:∀ g j,I.fi g=some j→∀ vs h q,bu ((aj P d).2 (10000 + g) vs h)=some q→vs.length=j.ps.length:=j5 F d
  refine⟨fun f i h=>?_,fun f i h=>?_,fun f i h=>?_,fun f h=>?_,fun f i h=>?_,fun f i h=>?_⟩
  ·obtain⟨kws,fdk⟩:=F.fd f i h
   refine fdk.ok (F.sc f i h) (fun vs H Q E q=>q.1) fun cdv A outer s H vs Q E hr hsp=>?_
   obtain⟨hn,S,ρ,hp,ds,dd,hp',rv,R,e,wq⟩:=hsp
   have e:aL P (call P d) (aj P d).2 f ds hp=some (dd,hp'):=e
   obtain⟨k,hk,hc,hnp,hns⟩:=F.bd f i h
   unfold aL at e
   rw[hk]at e
   dsimp only at e
   split at e
   rotate_left
   ·cases e
   rename_i hl
   have sc:=F.sc f i h
   have c:CxOk W P I L (call P d) (aj P d).2 d (T f).N (T f).scope (fun _=>true) (L2.cxOf CX0 W.P W.w W.K W.mg L.base (T f).N (T f).qual (T f).scope (L.fA f) cdv A outer s H E).nox:=by
    refine⟨⟨rfl,rfl,rfl,rfl,rfl,?_⟩,rfl,rfl,fun x _=>rfl,rfl,sc.nd,sc.kind,hr,(fun e=>by rw[hrep]at e;cases e),ok,ih.1,f2,g2,gA,(fun e=>by rw[hrep]at e;cases e),fun g j hj=>cI F hj d,fun g j hj=>ci F hj d,a2,ih.2.2.2.1,ih.2.2.2.2.1,fun g j hj=>bW F hj d,xx2,ax2,F.xf,F.xd,ih.2.2.2.2.2,fun g j hj=>cC F hj d,F.hh⟩
    have:=hr.un
    exact Nat.lt_of_le_of_lt (Nat.add_le_add_right (Nat.le_add_right _ _) _) this
   refine⟨_,L2.PSs.nox (bH k.body PassesOwn.never (fun _=>⟨fun _ _ z=>z,rfl,rfl⟩) c hc),?_⟩
   have hlen:k.ns - k.np=(T f).N.length - vs.length:=by rw[hns,hnp,hn]
   split at e
   ·rename_i env1 h1 e1
    cases e
    exact⟨_,S,ρ,hp,_,bA rv hlen,R,e1,fun S1 ρ1 H1 g1 R1 σ1 re1=>wq S1 ρ1 H1 _ g1 R1 .non⟩
   ·rename_i r env1 h1 e1
    cases e
    exact⟨_,S,ρ,hp,_,bA rv hlen,R,e1,fun S1 ρ1 H1 g1 R1 v rv=>wq S1 ρ1 H1 v g1 R1 rv⟩
   ·cases e
  ·obtain⟨oc,od,dV,kV,doc,pm,an,cdv,ct,osl,efd,lk,hcd,_,_⟩:=(F.gfd f i h).ex
   have sc:=F.gsc f i h
   obtain⟨hk0,k,hk,hc,hnp,hns⟩:=F.gbd f i h
   rw[efd]at lk ⊢
   refine sF lk hcd sc (fun vs H Qy Qn q=>q.1) fun A outer s H vs Qy Qn pn hr hsp=>?_
   obtain⟨hn,S,ρ,hp,ds,dd,hp',rv,R,e,wq⟩:=hsp
   have e:aL P (call P d) (aj P d).2 f ds hp=some (dd,hp'):=e
   unfold aL at e
   rw[hk0,hk]at e
   dsimp only at e
   split at e
   rotate_left
   ·cases e
   rename_i hl
   have c:CxOk W P I L (call P d) (aj P d).2 d (T f).N (T f).scope (fun _=>true) (L2.gcxOf W.P W.w W.K W.mg L.base (T f).N (T f).qual (T f).scope (L.fA f) cdv A outer s H jJ pn).nox:=by
    refine⟨⟨rfl,rfl,rfl,rfl,rfl,?_⟩,rfl,rfl,fun x _=>rfl,rfl,sc.nd,sc.kind,hr,(fun e=>by rw[hrep]at e;cases e),ok,ih.1,f2,g2,gA,(fun e=>by rw[hrep]at e;cases e),fun g j hj=>cI F hj d,fun g j hj=>ci F hj d,a2,ih.2.2.2.1,ih.2.2.2.2.1,fun g j hj=>bW F hj d,xx2,ax2,F.xf,F.xd,ih.2.2.2.2.2,fun g j hj=>cC F hj d,F.hh⟩
    have:=hr.un
    exact Nat.lt_of_le_of_lt (Nat.add_le_add_right (Nat.le_add_right _ _) _) this
   refine⟨_,ig k.body PassesOwn.never (fun _=>⟨fun _ _ z=>z,rfl,rfl⟩) c sc.co hc,?_⟩
   have hlen:k.ns - k.np=(T f).N.length - vs.length:=by rw[hns,hnp,hn]
   split at e
   ·rename_i env1 h1 e1
    cases e
    rcases wq with ⟨_,wq⟩ | ⟨x,z,_⟩
    ·exact⟨_,S,ρ,hp,_,bA rv hlen,R,e1,fun S1 ρ1 H1 g1 R1 σ1 re1=>wq S1 ρ1 H1 g1 R1⟩
    ·cases z
   ·rename_i r env1 h1 e1
    cases e
    rcases wq with ⟨z,_⟩ | ⟨x,z,wq⟩
    ·cases z
    ·cases z
     exact⟨_,S,ρ,hp,_,bA rv hlen,R,e1,fun S1 ρ1 H1 g1 R1 v rv=>wq S1 ρ1 H1 v g1 R1 rv⟩
   ·cases e
  ·obtain⟨oc,od,dV,kV,doc,pm,an,cdv,ct,osl,efd,lk,hcd,_,_⟩:=(F.gfd f i h).ex
   have sc:=F.gsc f i h
   obtain⟨hk0,k,hk,hc,hnp,hns⟩:=F.gbd f i h
   rw[efd]at lk ⊢
   refine L2.gfn_of lk hcd sc (fun vs H Q E q=>q.1) fun A outer s H vs Q E pn hr hsp=>?_
   obtain⟨hn,S,ρ,hp,ds,os,hp',rv,R,e,hz,wq⟩:=hsp
   rw[wL F h hk d ds hp]at e
   split at e
   rotate_left
   ·cases e
   rename_i hl
   have c:CxOk W P I L (call P d) (aj P d).2 d (T f).N (T f).scope (fun _=>true) (L2.gcxOf W.P W.w W.K W.mg L.base (T f).N (T f).qual (T f).scope (L.fA f) cdv A outer s H E pn).nox:=by
    refine⟨⟨rfl,rfl,rfl,rfl,rfl,?_⟩,rfl,rfl,fun x _=>rfl,rfl,sc.nd,sc.kind,hr,(fun e=>by rw[hrep]at e;cases e),ok,ih.1,f2,g2,gA,(fun e=>by rw[hrep]at e;cases e),fun g j hj=>cI F hj d,fun g j hj=>ci F hj d,a2,ih.2.2.2.1,ih.2.2.2.2.1,fun g j hj=>bW F hj d,xx2,ax2,F.xf,F.xd,ih.2.2.2.2.2,fun g j hj=>cC F hj d,F.hh⟩
    have:=hr.un
    exact Nat.lt_of_le_of_lt (Nat.add_le_add_right (Nat.le_add_right _ _) _) this
   refine⟨_,t7 (ii k.body PassesOwn.never (fun _=>⟨fun _ _ z=>z,rfl,rfl⟩) c sc.co hc),?_⟩
   have hlen:k.ns - k.np=(T f).N.length - vs.length:=by rw[hns,hnp,hn]
   split at e
   ·rename_i os1 env1 h1 e1
    cases e
    exact⟨_,S,ρ,hp,_,_,_,_,bA rv hlen,R,e1,by rw[List.length_nil,Nat.zero_add];exact hz,fun S1 ρ1 H1 us g1 R1 ru σ1 re1=>wq S1 ρ1 H1 us g1 R1 ru⟩
   ·cases e
  ·obtain⟨oc,od,dV,kV,doc,pm,an,cdv,ct,osl,efd,lk,hcd,_,_⟩:=(F.sfd f h).ex
   obtain⟨p0,pv,sc,hb⟩:=F.ssc f h
   obtain⟨k,hk,hc,hnp,hns⟩:=F.sbd f h
   rw[efd]at lk hb
   refine StX.fn_star (ps:=[p0]) (pv:=pv) (sp:=be W 2 (call P (d + 1) f)) lk hcd sc StX.cxUp_none hb fun A outer s H vs Q E hr hsp=>?_
   obtain⟨hn,S,ρ,hp,ds,dd,hp',rv,R,e,wq⟩:=hsp
   have e:aL P (call P d) (aj P d).2 f ds hp=some (dd,hp'):=e
   unfold aL at e
   rw[hk]at e
   dsimp only at e
   split at e
   rotate_left
   ·cases e
   rename_i hl
   have c:CxOk W P I L (call P d) (aj P d).2 d (T f).N (T f).scope (fun _=>true) (L2.cxOf CX0 W.P W.w W.K W.mg L.base (T f).N (T f).qual (T f).scope (L.fA f) cdv A outer s H E).nox:=by
    refine⟨⟨rfl,rfl,rfl,rfl,rfl,?_⟩,rfl,rfl,fun x _=>rfl,rfl,sc.nd,sc.kind,hr,(fun e=>by rw[hrep]at e;cases e),ok,ih.1,f2,g2,gA,(fun e=>by rw[hrep]at e;cases e),fun g j hj=>cI F hj d,fun g j hj=>ci F hj d,a2,ih.2.2.2.1,ih.2.2.2.2.1,fun g j hj=>bW F hj d,xx2,ax2,F.xf,F.xd,ih.2.2.2.2.2,fun g j hj=>cC F hj d,F.hh⟩
    have:=hr.un
    exact Nat.lt_of_le_of_lt (Nat.add_le_add_right (Nat.le_add_right _ _) _) this
   refine⟨_,L2.PSs.nox (bH k.body PassesOwn.never (fun _=>⟨fun _ _ z=>z,rfl,rfl⟩) c hc),?_⟩
   have hlen:k.ns - k.np=(T f).N.length - vs.length:=by rw[hns,hnp,hn]
   split at e
   ·rename_i env1 h1 e1
    cases e
    exact⟨_,S,ρ,hp,_,bA rv hlen,R,e1,fun S1 ρ1 H1 g1 R1 σ1 re1=>wq S1 ρ1 H1 _ g1 R1 .non⟩
   ·rename_i r env1 h1 e1
    cases e
    exact⟨_,S,ρ,hp,_,bA rv hlen,R,e1,fun S1 ρ1 H1 g1 R1 v rv=>wq S1 ρ1 H1 v g1 R1 rv⟩
   ·cases e
  ·obtain⟨kws,fdk⟩:=F.fd f i h
   refine fdk.ok (F.sc f i h) (fun vs H Q E q=>q.1) fun cdv A outer s H vs Q E hr hsp=>?_
   obtain⟨hn,S,ρ,hp,ds,cc,fs,hp',rv,R,e,wq⟩:=hsp
   obtain⟨hlt,x1,x2⟩:=F.xno f i h
   have e:bu (aL P (call P d) (aj P d).2 (10000 + f) ds hp)=some (cc,fs,hp'):=e
   rw[rV hlt _ _ x1 x2]at e
   obtain⟨k,hk,hc,hnp,hns⟩:=F.bd f i h
   rw[hk]at e
   dsimp only at e
   cases hx:(P.xfn f||P.xdn f) with
   | false=>rw[hx]at e;cases e
   | true=>
   rw[hx]at e
   simp only[cond_true]at e
   split at e
   rotate_left
   ·cases e
   rename_i hl
   have sc:=F.sc f i h
   have c:CxOk W P I L (call P d) (aj P d).2 d (T f).N (T f).scope (fun _=>true) (L2.cxOf (L2N.CX W.P W.w) W.P W.w W.K W.mg L.base (T f).N (T f).qual (T f).scope (L.fA f) cdv A outer s H E):=by
    refine⟨⟨rfl,rfl,rfl,rfl,rfl,?_⟩,rfl,rfl,fun x _=>rfl,rfl,sc.nd,sc.kind,hr,(fun e=>by rw[hrep]at e;cases e),ok,ih.1,f2,g2,gA,(fun e=>by rw[hrep]at e;cases e),fun g j hj=>cI F hj d,fun g j hj=>ci F hj d,a2,ih.2.2.2.1,ih.2.2.2.2.1,fun g j hj=>bW F hj d,xx2,ax2,F.xf,F.xd,ih.2.2.2.2.2,fun g j hj=>cC F hj d,F.hh⟩
    have:=hr.un
    exact Nat.lt_of_le_of_lt (Nat.add_le_add_right (Nat.le_add_right _ _) _) this
   have rx:RxX (L2.cxOf (L2N.CX W.P W.w) W.P W.w W.K W.mg L.base (T f).N (T f).qual (T f).scope (L.fA f) cdv A outer s H E) E:=⟨PassesOwn.leaving,rfl,rfl,L2N.takes_of rfl rfl rfl rfl⟩
   refine⟨_,gj k.body rx c hc,?_⟩
   have hlen:k.ns - k.np=(T f).N.length - vs.length:=by rw[hns,hnp,hn]
   split at e
   ·rename_i c' fs' h1 e1
    cases e
    exact⟨_,S,ρ,hp,_,_,_,bA rv hlen,R,e1,wq⟩
   ·cases e
  ·obtain⟨kws,fdk⟩:=F.fd f i (.inl h)
   refine fdk.ok (F.sc f i (.inl h)) (fun vs H Q E q=>q.1) fun cdv A outer s H vs Q E hr hsp=>?_
   obtain⟨hn,S,ρ,hp,ds,cc,fs,hp',rv,R,e,wq⟩:=hsp
   obtain⟨hlt,x1,x2⟩:=F.xno f i (.inl h)
   have e:bu (aL P (call P d) (aj P d).2 (20000 + f) ds hp)=some (cc,fs,hp'):=e
   rw[rY F hlt]at e
   obtain⟨k,hk,hc,hnp,hns⟩:=F.bd f i (.inl h)
   rw[hk]at e
   dsimp only at e
   cases hx:P.xhf f with
   | false=>rw[hx]at e;cases e
   | true=>
   rw[hx]at e
   simp only[cond_true]at e
   split at e
   rotate_left
   ·cases e
   rename_i hl
   have sc:=F.sc f i (.inl h)
   have c:CxOk W P I L (call P d) (aj P d).2 d (T f).N (T f).scope (fun _=>true) (L2.cxOf (L2.CX W.P W.w) W.P W.w W.K W.mg L.base (T f).N (T f).qual (T f).scope (L.fA f) cdv A outer s H E):=by
    refine⟨⟨rfl,rfl,rfl,rfl,rfl,?_⟩,rfl,rfl,fun x _=>rfl,rfl,sc.nd,sc.kind,hr,(fun e=>by rw[hrep]at e;cases e),ok,ih.1,f2,g2,gA,(fun e=>by rw[hrep]at e;cases e),fun g j hj=>cI F hj d,fun g j hj=>ci F hj d,a2,ih.2.2.2.1,ih.2.2.2.2.1,fun g j hj=>bW F hj d,xx2,ax2,F.xf,F.xd,ih.2.2.2.2.2,fun g j hj=>cC F hj d,F.hh⟩
    have:=hr.un
    exact Nat.lt_of_le_of_lt (Nat.add_le_add_right (Nat.le_add_right _ _) _) this
   have rx:RxH (L2.cxOf (L2.CX W.P W.w) W.P W.w W.K W.mg L.base (T f).N (T f).qual (T f).scope (L.fA f) cdv A outer s H E) E:=⟨PassesOwn.leaving,rfl,rfl,L2.takes_of rfl rfl rfl rfl,L2H.passesAt_of rfl⟩
   refine⟨_,hU k.body rx c hc,?_⟩
   have hlen:k.ns - k.np=(T f).N.length - vs.length:=by rw[hns,hnp,hn]
   split at e
   ·rename_i c' fs' h1 e1
    cases e
    exact⟨_,S,ρ,hp,_,_,_,bA rv hlen,R,e1,wq⟩
   ·cases e
theorem um (hrep:I.rep=false) (ok:SIok W P I L) (F:FOk W P I L T) (d:Nat):∀ g j,I.gi g=some j→(∃ k,k + 3≤d + 2∧L2.GFn W.P W.w W.K W.mg L.base k (L.fA g) (L.fD g) j.ps (nY W j.ps.length ((aj P d).2 (6000 + g))))∨∀ vs h,(aj P d).2 (6000 + g) vs h=none:=fun g j hj=>by
 match d with
 | 0=>exact .inr fun _ _=>rfl
 | 1=>exact .inr fun _ _=>rfl
 | 2=>exact .inr fun vs h=>jz F hj 0 vs h
 | d' + 3=>
  refine .inl ⟨d' + 2,by omega,?_⟩
  have e:(aj P (d' + 3)).2 (6000 + g)=call P d' (5000 + g):=funext fun vs=>funext fun h=>jz F hj (d' + 1) vs h
  rw[e]
  exact (bx hrep ok F d').2.2.1 g j hj
end
open L2 (upd upd_same upd_ne Cx VK Inv RelV HOk ObjOk PE PT PA CX0 Room FnOk Binds PS PSs Ends TS FunD FnScope Env0 CE CR XK Vals cxOf inv_start start SqL SqT HO Only hidT hidT_get hidT_size of_hidT Mod ObjOk vals_ints)
section
variable {W:Wd} {P:Prg} {I:SI} {L:Lk} {T:Nat→FnT}
theorem l5 (hrep:I.rep=false) (ok:SIok W P I L) (F:FOk W P I L T) {t:FnT} {a:Addr} {fd:FuncData} {ps:List Str} {b:Ss} (D:FunD W.K t.x t.qual t.params t.body t.scope [] [] a fd)
  (sc:FnScope t.N ps t.scope) (hc:aW { I with rep:=true } b t.N t.scope t.body=true) (d:Nat)
  (hR:∀ f i,I.ri f=some i→FnG W.P W.w W.K W.mg L.base (d + 2) (L.fA f) (L.fD f) i.ps (be W i.ps.length (call P d f))):
  FnG W.P W.w W.K W.mg L.base (d + 3) a fd ps (be W ps.length fun vs h=>match az P (call P d) (aj P d).2 b (vs.map some++aM (t.N.length - ps.length)) h with
   | some (.nx,_,h')=>some (.non,h')
   | some (.rt r,_,h')=>some (r,h')
   | _=>none):=by
 refine u3 D sc (fun vs H Q E q=>q.1) fun cdv A outer s H vs Q E hr hg hsp=>?_
 obtain⟨hn,S,ρ,hp,ds,dd,hp',rv,R,e,wq⟩:=hsp
 have c:CxOk W P { I with rep:=true } L (call P d) (aj P d).2 d t.N t.scope (fun _=>true) (L2.cxOf CX0 W.P W.w W.K W.mg L.base t.N t.qual t.scope a cdv A outer s H E).nox:=by
  refine⟨⟨rfl,rfl,rfl,rfl,rfl,?_⟩,rfl,rfl,fun x _=>rfl,rfl,sc.nd,sc.kind,hr,fun _=>hg,⟨ok.fn,ok.gn,ok.rn,ok.gl,ok.cl,ok.mkk,ok.me,ok.fr,ok.fv,ok.co,ok.fin,ok.dn,ok.nn,ok.kw,ok.xk,ok.xik,ok.xn,ok.xsu,ok.xis,ok.xq,ok.xfd⟩,(bx hrep ok F d).1,fun g j hj=>?_,fun g j hj=>?_,um hrep ok F d,fun _=>hR,fun g j hj=>cI F hj d,fun g j hj=>ci F hj d,fun g j hj=>?_,(bx hrep ok F d).2.2.2.1,(bx hrep ok F d).2.2.2.2.1,fun g j hj=>bW F hj d,lp (fun d' hd g j hj=>by subst hd;exact (bx hrep ok F d').2.2.2.2.1 g j hj),j5 F d,F.xf,F.xd,(bx hrep ok F d).2.2.2.2.2,fun g j hj=>cC F hj d,F.hh⟩
  ·have:=hr.un
   exact Nat.lt_of_le_of_lt (Nat.add_le_add_right (Nat.le_add_right _ _) _) this
  ·cases d with
   | zero=>exact fX (f:=g)
   | succ d'=>exact (bx hrep ok F d').1 g j (.inl hj)
  ·cases d with
   | zero=>exact gL (f:=g)
   | succ d'=>exact (bx hrep ok F d').2.1 g j hj
  ·cases d with
   | zero=>exact fun vs h r e=>by cases e
   | succ d'=>exact ci F (.inl hj) d'
 refine⟨_,L2.PSs.nox (bH b PassesOwn.never (fun _=>⟨fun _ _ z=>z,rfl,rfl⟩) c hc),?_⟩
 have hlen:t.N.length - ps.length=t.N.length - vs.length:=by rw[hn]
 try dsimp only at e
 split at e
 ·rename_i env1 h1 e1
  cases e
  exact⟨_,S,ρ,hp,_,bA rv hlen,R,e1,fun S1 ρ1 H1 g1 R1 σ1 re1=>wq S1 ρ1 H1 _ g1 R1 .non⟩
 ·rename_i r env1 h1 e1
  cases e
  exact⟨_,S,ρ,hp,_,bA rv hlen,R,e1,fun S1 ρ1 H1 g1 R1 v rv=>wq S1 ρ1 H1 v g1 R1 rv⟩
 ·cases e
theorem sV {f:Nat} {ps:List Str} {fd:FuncData} {k:Nat} {a:Addr}:FnG W.P W.w W.K W.mg L.base k a fd ps (be W ps.length fun _ _=>none):=
 ⟨fun vs H Q E h=>h.1,fun A outer s H args us vs Q E hr hg he hb hv hs=>by
  obtain⟨_,S,ρ,h,ds,d,h',_,_,e,_⟩:=hs
  cases e⟩
theorem lm (hrep:I.rep=false) (ok:SIok W P I L) (F:FOk W P I L T):∀ d f i,I.ri f=some i→FnG W.P W.w W.K W.mg L.base (d + 2) (L.fA f) (L.fD f) i.ps (be W i.ps.length (call P d f))
 | 0,f,i,h=>sV (f:=f)
 | d + 1,f,i,h=>by
  obtain⟨k,hk,hc,hnp,hns⟩:=F.rbd f i h
  have r:=l5 hrep ok F (t:=T f) (F.rfd f i h) (F.rsc f i h) hc d (lm hrep ok F d)
  have e:(call P (d + 1) f)=fun vs h=>if vs.length=k.np then (match az P (call P d) (aj P d).2 k.body (vs.map some++aM (k.ns - k.np)) h with
   | some (.nx,_,h')=>some (.non,h')
   | some (.rt r,_,h')=>some (r,h')
   | _=>none) else none:=by
   funext vs h
   show aL P (aj P d).1 (aj P d).2 f vs h=_
   unfold aL
   rw[hk]
   rfl
  refine⟨fun vs H Q E q=>q.1,fun A outer s H args us vs Q E hr hg he hb hv hs=>r.run A outer s H args us vs Q E hr hg he hb hv ?_⟩
  obtain⟨hn,S,ρ,hp,ds,dd,hp',rv,R,e1,wq⟩:=hs
  refine⟨hn,S,ρ,hp,ds,dd,hp',rv,R,?_,wq⟩
  rw[e]at e1
  dsimp only at e1
  split at e1
  ·rw[hnp,hns]at e1;exact e1
  ·cases e1
end
open L2 (upd upd_same upd_ne Cx VK Inv RelV HOk ObjOk PE PT PA CX0 Room FnOk Binds PS PSs Ends TS FunD FnScope Env0 CE CR XK Vals cxOf inv_start start SqL SqT HO Only hidT hidT_get hidT_size of_hidT Mod vals_ints)
def scr (ns:List Int):D:=.frl (ns.map .int)
theorem j8 {W:Wd} {H:HH} {S:Addr→Prop} {ρ:aq}:∀ ns:List Int,RVs W H S ρ (ns.map D.int) (ns.map L2.V.int)
 | []=>.nil
 | n :: r=>.cons (.int n) (j8 r)
theorem vE {W:Wd} {H:HH} {a:Addr} {ns:List Int} {g:List D→Mm→Option (D×Mm)} {h':Mm} {E:XK} (hO:Only H) (hS:SqL W.K H a (ns.map L2.V.int)) (hg:g [scr ns] .nil=some (.bl true,h')):be W 1 g [.ref a] H (fun v _=>v = .bl true) E:=by
 refine⟨rfl,fun b=>∃ u,H b=some u,cQ,.nil,[scr ns],.bl true,h',.cons (.frl ?_ (j8 ns)) .nil,⟨fun n o e=>(by cases e),fun n m a o u e=>(by cases e),fun n a e=>(by cases e),fun b s=>s⟩,hg,fun S' ρ' H' v _ _ r=>by cases r;rfl⟩
 rcases hS with (e | ⟨o,e⟩) | k
 ·rcases hO a with z | ⟨o,xs,z⟩
  ·rw[e]at z;cases z
  ·rw[e]at z;cases z
 ·exact .inl ⟨⟨_,e⟩,o,e⟩
 ·exact .inr k
theorem vi {P:Program} {w:World} {K:PySem.W.Frag} {mg mb:Str→Option Value} {k:Nat} {fa a:Addr} {fd:FuncData} {x:Str} {sp:L2.Sp} {s₁:Shared} {vs:List Value} {ns:List Int}
  (KX:K.In s₁.heap) (hns:s₁.heap.Ns mainGlobals mg) (hb:s₁.heap.Ns builtinsNs mb) (hbb:∀ x:Str,x≠"__name__"→mb x=bootBuiltins x) (hlim:s₁.heap.NoLimit) (hg:s₁.gens = #[])
  (ha:s₁.heap.get? a=some { cls:=.type "list",data:=.seq vs.toArray }) (hi:IntsAre vs ns) (hl:ns.length≤sizeLine) (hr:Room k callerA)
  (F:∀ base:Heap,K.In base→base.Ns mainGlobals mg→FnG P w K mg base k fa fd [x] sp) (hbind:∀ (s:Shared) (u:Value),BindsTo s fd ⟨[u],[]⟩ [(x,u)])
  (hsp:∀ H:HH,Only H→SqL K H a (ns.map L2.V.int)→sp [.ref a] H (fun v _=>v = .bl true) L2.E0):
  codeAny (model P w) callerA (.call (.ref fa) ⟨[.ref a],[]⟩) (fun r s'=>r = .ok (.ret (.bool true))∧OldK s₁.heap s'.heap∧s'.os=s₁.os∧AllBare s'.gens) s₁:=by
 have rv:=vals_ints hi
 -- the tracked heap: the script alone, if it is not the module's own
 have key:∀ H:HH,(∀ b u,H b=some u→b=a∧K.lookup a=none∧∃ o xs,u = .frz o (.lst xs))→SqL K H a (ns.map L2.V.int)→HOk P w H s₁.heap →
   codeAny (model P w) callerA (.call (.ref fa) ⟨[.ref a],[]⟩) (fun r s'=>r = .ok (.ret (.bool true))∧OldK s₁.heap s'.heap∧s'.os=s₁.os∧AllBare s'.gens) s₁:=by
  intro H hA hS hok
  have only:Only H:=fun b=>by
   cases q:H b with
   | none=>exact .inl rfl
   | some u=>obtain⟨_,_,o,xs,e⟩:=hA b u q;exact .inr ⟨o,xs,by rw[e]⟩
  have free:∀ b,b≠a→H b=none:=fun b hne=>by
   cases q:H b with
   | none=>rfl
   | some u=>exact absurd (hA b u q).1 hne
  have nsOf:∀ {b:Addr} {m:Str→Option Value},s₁.heap.Ns b m→(hidT s₁.heap H).Ns b m:=by
   rintro b m ⟨o,es,ep,e,d,r⟩
   refine⟨o,es,ep,hidT_get e (free b fun z=>?_),d,r⟩
   rw[z,ha]at e
   cases e
   cases d
  have kb:K.In (hidT s₁.heap H):=fun b o e=>hidT_get (KX b o e) (by
   cases q:H b with
   | none=>rfl
   | some u=>
    obtain⟨z,n,_⟩:=hA b u q
    rw[z,n]at e;cases e)
  have md:Mod K mg (hidT s₁.heap H):=⟨kb,nsOf hns,⟨mb,nsOf hb,hbb⟩,hlim.imp fun mc h=>⟨nsOf h.1,h.2⟩⟩
  have e0:Env0 P w K mg (hidT s₁.heap H) callerA [] s₁ H:=⟨rfl,md,fun b o e=>of_hidT e,Nat.le_of_eq (hidT_size _ _),trivial,fun b hb=>(by cases hb),hok,.of_eq hg⟩
  refine codeAny_mono ((F _ kb (nsOf hns)).run callerA [] s₁ H ⟨[.ref a],[]⟩ [.ref a] [.ref a] _ _ hr rfl e0 (hbind s₁ (.ref a)) (.cons rfl .nil) (hsp H only hS)) fun r s' h=>?_
  match r,h with
  | .ok (.ret u),h=>
   obtain⟨v,H',os,bare,un,hok',r',q⟩:=h
   cases (show v = .bl true from q)
   cases (show u=Value.bool true from r')
   refine⟨rfl,OldK.of_keep fun b o e=>?_,os,bare⟩
   cases q:H b with
   | none=>exact un.keep b o e q (fun z=>by cases z) (fun z=>by cases z)
   | some u=>
    obtain⟨_,_,ob,xs,rfl⟩:=hA b u q
    obtain⟨e1,_⟩:=hok b _ q
    obtain⟨e2,_⟩:=hok' b _ (un.frzs b ob _ q)
    rw[e]at e1;cases e1
    exact e2
  | .error e,h=>exact (show False from h).elim
  | .ok .next,h=>exact (show False from h).elim
  | .ok .brk,h=>exact (show False from h).elim
  | .ok .cont,h=>exact (show False from h).elim
 cases hk:K.lookup a with
 | some o=>
  have e:=KX a o hk
  rw[ha]at e
  cases e
  refine key (fun _=>none) (fun b u z=>by cases z) (.inr ⟨_,vs.toArray,_,hk,rfl,rfl,rfl,by rw[List.size_toArray,hi.length];exact hl,by simpa using rv⟩) fun b u z=>by cases (show (none:Option HO)=some u from z)
 | none=>
  let ob:Obj:={ cls:=.type "list",data:=.seq vs.toArray }
  have there:∀ b u,(if b=a then some (HO.frz ob (.lst (ns.map L2.V.int))) else none)=some u→b=a∧u = .frz ob (.lst (ns.map L2.V.int)):=fun b u z=>by
   by_cases e:b=a
   ·rw[if_pos e]at z;exact⟨e,(Option.some.inj z).symm⟩
   ·rw[if_neg e]at z;cases z
  refine key (fun b=>if b=a then some (.frz ob (.lst (ns.map L2.V.int))) else none) (fun b u z=>?_) (.inl (.inr ⟨ob,if_pos rfl⟩)) fun b u z=>?_
  ·obtain⟨h1,h2⟩:=there b u z
   exact⟨h1,hk,ob,_,h2⟩
  ·obtain⟨rfl,rfl⟩:=there b u z
   exact⟨ha,by rw[List.length_map];exact hl,vs,_,rv,ha⟩
theorem vq {l:PySem.W.OpenLaw} {n k:Nat} {q:Program} {loose:List Str} {XP:(Str→Option Value)→Heap→Prop} {YP:World→Heap→Prop} {d:DefRec} {x:Str}
  (hn:l.most=some n) (hn2:n≤sizeLine) (hdf:d.params.defaults=[]) (hr:Room k callerA)
  (F:∀ (w:World) (mg:Str→Option Value) (fa:Addr) (h:Heap),YP w h→h.Ns mainGlobals mg→mg d.name=some (.ref fa) →
   ∃ (K:PySem.W.Frag) (fd:FuncData) (sp:L2.Sp),K.In h∧(∀ (s:Shared) (u:Value),BindsTo s fd ⟨[u],[]⟩ [(x,u)]) ∧
    (∀ (H:HH) (a:Addr) (ns:List Int),ns.length≤n→Only H→SqL K H a (ns.map L2.V.int)→sp [.ref a] H (fun v _=>v = .bl true) L2.E0) ∧
    ∀ base:Heap,K.In base→base.Ns mainGlobals mg→FnG l.prog w K mg base k fa fd [x] sp):
  PySem.W.WalkO q loose XP YP l.row.toRowW d [] (fun f vs=>PySem.call f vs):=by
 refine Att.attach_call hn hdf fun w s₀ s₁ mg mb fa o pm cd doc a vs ns G Y ho hd hcd hmg hobj hints hlen hg=>?_
 obtain⟨K,fd,sp,KX,hb,hsp,hF⟩:=F w mg fa _ Y G.T.g hmg
 exact vi KX G.T.g G.T.b G.T.builtins G.T.nolimit hg hobj hints (Nat.le_trans hlen hn2) hr hF hb fun H hO hS=>hsp H a ns hlen hO hS
theorem tm {K:PySem.W.Frag} {C:Addr} (h:pR K C=true):InsK K C:=by
 unfold pR at h
 simp only[Bool.and_eq_true,decide_eq_true_eq,List.all_eq_true]at h
 obtain⟨h1,h2,h3,h4,h5⟩:=h
 exact⟨h1,h2,h3,h4,fun t=>h5 t (by cases t<;>simp)⟩
theorem cT {α:Type}:∀ {a a' b b':List α},a.length=a'.length→a++b=a'++b'→a=a'∧b=b'
 | [],[],_,_,_,h=>⟨rfl,h⟩
 | x :: a,y :: a',b,b',hl,h=>by
  have hl:a.length=a'.length:=by simpa using hl
  rw[List.cons_append,List.cons_append]at h
  injection h with h1 h2
  obtain⟨q1,q2⟩:=cT hl h2
  exact⟨by rw[h1,q1],q2⟩
theorem dN {K:PySem.W.Frag} {ds:Dks} {w:World} (h:fJ K ds=mu ds w):((ds.ds.map fun d=>mN K d.1)=ds.ds.map fun d=>some (d.2.map fun p=>(p.1,p.2,PyData.keyHash w.params p.1)))∧((ds.ts.map fun d=>mH K d.1)=ds.ts.map fun d=>some (d.2.map fun s=>(s,s,(0:Int))))∧((ds.cs.map fun x=>m8 K x)=ds.cs.map fun _=>some [])∧((ds.xs.map fun x=>mR K x.2)=ds.xs.map fun _=>some [])∧((ds.xi.map fun x=>kY (fH K x.2))=ds.xi.map fun _=>some [])∧((ds.xu.map fun x=>kY (sv K ds x))=ds.xu.map fun _=>some [])∧(ds.xq.map fun x=>kY (lP K ds x))=ds.xq.map fun _=>some []:=by
 obtain⟨h1,h2⟩:=cT (by simp) h
 obtain⟨h3,h4⟩:=cT (by simp) h2
 obtain⟨h5,h6⟩:=cT (by simp) h4
 obtain⟨h7,h8⟩:=cT (by simp) h6
 obtain⟨h9,h10⟩:=cT (by simp) h8
 obtain⟨h11,h12⟩:=cT (by simp) h10
 exact⟨h1,h3,h5,h7,h9,h11,h12⟩
theorem map_some {α:Type} {l:List α} {f:α→Bool} (h:(l.map fun x=>kY (f x))=l.map fun _=>some []) {x:α} (m:x∈l):f x=true:=by
 obtain⟨i,hi,ei⟩:=List.getElem_of_mem m
 have z:=congrArg (fun l=>l[i]?) h
 simp only[List.getElem?_map,List.getElem?_eq_getElem hi,Option.map_some,ei]at z
 cases q:f x with
 | true=>rfl
 | false=>rw[q]at z;cases z
theorem nJ {K:PySem.W.Frag} {C:Addr} (h:rj K C=true):XqC K C:=by
 unfold rj at h
 simp only[Bool.and_eq_true,decide_eq_true_eq]at h
 obtain⟨h1,h2,h3,h4,h5,h6,h7,h8,h9⟩:=h
 exact⟨h1,h2,h3,h4,h5,h6,h7,h8,h9⟩
theorem jr:∀ n,ExcBaseFacts (xB n).1 (xB n).2.1 (xB n).2.2.1 (xB n).2.2.2∧StoreFacts (xB n).1 (xB n).2.2.2 "object.__setattr__" "object"∧PySem.W.handedIn (.builtin (xB n).2.2.1)=true∧bootBuiltins (Str.ofString (xB n).1)=some (.type (xB n).1)∧typeOf (.type (xB n).1)=pure (.type "type")∧Manifest.isStub (xB n).1=false∧(Str.ofString (xB n).1 == ("__name__":Str))=false
 | 0=>⟨PySem.F.excBase_ValueError,PySem.F.store_ValueError,by decide +kernel,by decide +kernel,by kernel_rfl,by decide +kernel,by decide +kernel⟩
 | 1=>⟨PySem.F.excBase_LookupError,PySem.F.store_LookupError,by decide +kernel,by decide +kernel,by kernel_rfl,by decide +kernel,by decide +kernel⟩
 | 2=>⟨PySem.F.excBase_IndexError,PySem.F.store_IndexError,by decide +kernel,by decide +kernel,by kernel_rfl,by decide +kernel,by decide +kernel⟩
 | 3=>⟨PySem.F.excBase_RuntimeError,PySem.F.store_RuntimeError,by decide +kernel,by decide +kernel,by kernel_rfl,by decide +kernel,by decide +kernel⟩
 | _ + 4=>⟨PySem.F.excBase_OverflowError,PySem.F.store_OverflowError,(by decide +kernel:PySem.W.handedIn (.builtin "OverflowError.__init__")=true),(by decide +kernel:bootBuiltins (Str.ofString "OverflowError")=some (.type "OverflowError")),(by kernel_rfl:typeOf (.type "OverflowError")=pure (.type "type")),(by decide +kernel:Manifest.isStub "OverflowError" = false),(by decide +kernel:(Str.ofString "OverflowError" == ("__name__":Str))=false)⟩
theorem kN {K:PySem.W.Frag} {x:Xc} (h:fH K x=true):XiC K (He.ga K x.nm) (xB x.bi).1 (xB x.bi).2.1 (xB x.bi).2.2.1 (xB x.bi).2.2.2∧PySem.W.findIn K (.ref (He.ga K x.nm)) "__init__" = some (some (.ref (He.fAd K (x.nm,some "__init__"))))∧PySem.W.typeIn K (.ref (He.fAd K (x.nm,some "__init__")))=some (.type "function") ∧
  XqC K (He.ga K x.nm)∧(∀ f∈x.fl,PySem.W.findIn K (.ref (He.ga K x.nm)) f=some none)∧sC K x=true:=by
 unfold fH at h
 simp only[Bool.and_eq_true,decide_eq_true_eq,List.all_eq_true]at h
 obtain⟨h1,h2,h3,h4,h5,h6,h7,h8,h9,h10⟩:=h
 have q:=nJ h8
 obtain⟨b1,b2,_⟩:=jr x.bi
 exact⟨⟨b1,b2,h1,h2,q.hdC,h3,q.hsub,h4,h5⟩,h6,h7,q,h9,h10⟩
theorem vG {K:PySem.W.Frag} {mg:Str→Option Value} {x:Xc} (h:sC K x=true) (h1:x.own=true→mg x.base=some (.ref (He.ga K x.base))) (h2:x.own=false→mg x.base=none):iY K mg x.base (xB x.bi).2.2.1:=by
 unfold sC at h
 split at h
 ·rename_i e
  simp only[Bool.and_eq_true,decide_eq_true_eq]at h
  obtain⟨a1,a2,a3⟩:=h
  split at a3
  ·rename_i i q
   rw[beq_iff_eq]at a3
   subst a3
   exact .inl ⟨_,_,h1 e,a1,a2,q⟩
  ·cases a3
 ·rename_i e
  simp only[Bool.and_eq_true,beq_iff_eq]at h
  obtain⟨a1,a3⟩:=h
  split at a3
  ·rename_i i q
   rw[beq_iff_eq]at a3
   subst a3
   obtain⟨_,_,_,b4,b5,b6,b7⟩:=jr x.bi
   rw[← a1]at b4 b7
   exact .inr ⟨h2 e,b7,_,b4,b5,b6,q⟩
  ·cases a3
theorem tD {K:PySem.W.Frag} {x:Str} (h:mR K x=some []):(∃ B newId initId bmB,ExcBaseFacts B newId initId bmB∧PySem.W.excIn K (He.ga K x) bmB newId=true)∧PySem.W.keepIn K (.ref (He.ga K x))=true∧PySem.W.subIn K (.ref (He.ga K x)) (.type "BaseException")=some true ∧
  PySem.W.typeIn K (.ref (He.ga K x))=some (.type "type")∧PySem.W.exmOne K (.ref (He.ga K x)) (.ref (He.ga K x))=some true:=by
 unfold mR at h
 split at h
 ·rename_i e
  simp only[Bool.and_eq_true,decide_eq_true_eq]at e
  obtain⟨e1,e2,e3,e4,e5⟩:=e
  refine⟨?_,e2,e3,e4,e5⟩
  unfold vm at e1
  rcases Bool.or_eq_true_iff.mp e1 with q | q
  ·exact⟨_,_,_,_,PySem.F.excBase_ValueError,q⟩
  ·exact⟨_,_,_,_,PySem.F.excBase_RuntimeError,q⟩
 ·cases h
theorem sH {K:PySem.W.Frag} {x:Str} (h:m8 K x=some []):(PySem.W.clsIn K (He.ga K x)).isSome=true∧PySem.W.typeIn K (.ref (He.ga K x))=some (.type "type")∧InsK K (He.ga K x):=by
 unfold m8 at h
 split at h
 ·rename_i e
  rw[Bool.and_eq_true,Bool.and_eq_true,decide_eq_true_eq]at e
  exact⟨e.1,e.2.1,tm e.2.2⟩
 ·cases h
theorem ss:∀ {l:List Value} {ts:List Str},jA l=some (ts.map fun s=>(s,s,(0:Int)))→L2.Vals (ts.map L2.V.str) l
 | [],ts,h=>by
  cases ts with
  | nil=>exact .nil
  | cons p r=>cases h
 | v :: r,ts,h=>by
  unfold jA at h
  split at h
  ·rename_i e
   cases e
  ·rename_i a t r' e
   cases e
   split at h
   ·rename_i s es
    cases ts with
    | nil=>cases h
    | cons p ts=>
     have h:=Option.some.inj h
     rw[List.map_cons]at h
     injection h with h1 h2
     injection h1 with h3 h4
     subst h3
     rw[List.map_cons]
     exact .cons ⟨_,rfl⟩ (ss (by rw[es,h2]))
   ·cases h
  ·cases h
theorem wJ {K:PySem.W.Frag} {x:Str} {ts:List Str} (h:mH K x=some (ts.map fun s=>(s,s,(0:Int)))):KT K (He.ga K x) (ts.map L2.V.str):=by
 unfold mH at h
 split at h
 ·rename_i c od its n sl hl
  split at h
  ·rename_i hc
   rw[Bool.and_eq_true,beq_iff_eq]at hc
   obtain⟨rfl,hb⟩:=hc
   refine⟨_,its,n,hl,rfl,rfl,?_,ss h⟩
   have:=Nat.le_of_ble_eq_true hb
   exact Nat.le_trans this (by decide)
  ·cases h
 ·cases h
theorem rR {P:Params}:∀ {l:List DictEntry} {kvs:List (Str×Str)},jq l=some (kvs.map fun p=>(p.1,p.2,PyData.keyHash P p.1))→PySem.W.KeysLit P l∧l.any (·.refKey)=false ∧
  ∀ x,(aY (kvs.map fun p=>(p.1,D.str p.2)) x=none∧l.find? (·.key.isStr x)=none)∨∃ d v e,aY (kvs.map fun p=>(p.1,D.str p.2)) x=some d∧l.find? (·.key.isStr x)=some e∧L2.RelV v e.val∧Sca d v
 | [],kvs,h=>by
  cases kvs with
  | nil=>exact⟨trivial,rfl,fun x=>.inl ⟨rfl,rfl⟩⟩
  | cons p r=>cases h
 | e :: r,kvs,h=>by
  unfold jq at h
  split at h
  ·rename_i a t b u s ek ev es
   cases kvs with
   | nil=>cases h
   | cons p kvs=>
    have h:=Option.some.inj h
    rw[List.map_cons]at h
    injection h with h1 h2
    injection h1 with h3 h4
    injection h4 with h5 h6
    subst h3 h5
    obtain⟨q1,q2,q3⟩:=rR (P:=P) (kvs:=kvs) (by rw[es,h2])
    have ks:∀ x,e.key.isStr x=(p.1 == x):=fun x=>by rw[ek];rfl
    refine⟨⟨⟨p.1,t,ek,h6⟩,q1⟩,?_,fun x=>?_⟩
    ·rw[List.any_cons,q2,Bool.or_false]
     unfold DictEntry.refKey
     rw[ek]
    ·by_cases hx:p.1=x
     ·refine .inr ⟨.str p.2,.str p.2,e,by simp[aY,hx],?_,by rw[ev];exact⟨u,rfl⟩,.str _⟩
      rw[List.find?_cons,ks,show (p.1 == x)=true from beq_iff_eq.mpr hx]
     ·have hb:(p.1 == x)=false:=beq_eq_false_iff_ne.mpr hx
      rcases q3 x with ⟨z1,z2⟩ | ⟨d,v,e',z1,z2,z3,z4⟩
      ·exact .inl ⟨by simp[aY,hx,z1],by rw[List.find?_cons,ks,hb];exact z2⟩
      ·exact .inr ⟨d,v,e',by simp[aY,hx,z1],by rw[List.find?_cons,ks,hb];exact z2,z3,z4⟩
  ·cases h
theorem wb {W:Wd} {x:Str} {kvs:List (Str×Str)} (h:mN W.K x=some (kvs.map fun p=>(p.1,p.2,PyData.keyHash W.w.params p.1))):yc W (He.ga W.K x) (kvs.map fun p=>(p.1,D.str p.2)):=by
 unfold mN at h
 split at h
 ·cases h
 ·rename_i hs
  split at h
  ·rename_i c es n hl
   split at h
   ·rename_i hc
    have hc:c = "dict":=beq_iff_eq.mp hc
    subst hc
    obtain⟨q1,q2,q3⟩:=rR h
    refine⟨hs,es,n,hl,q1,fun y=>?_⟩
    have ns:PySem.W.nsIn W.K (He.ga W.K x) y=(match es.toList.find? (·.key.isStr y) with
     | some e=>some (some e.val)
     | none=>if es.toList.any (·.refKey) then none else some none):=by
     unfold PySem.W.nsIn
     rw[hl]<;>rfl
    rcases q3 y with ⟨z1,z2⟩ | ⟨d,v,e',z1,z2,z3,z4⟩
    ·exact .inl ⟨z1,by rw[ns,z2,q2];rfl⟩
    ·exact .inr ⟨d,v,e'.val,z1,by rw[ns,z2],z3,z4⟩
   ·cases h
  ·cases h
open L2 (upd upd_same upd_ne Cx VK Inv RelV HOk ObjOk PE PT PA CX0 Room FnOk Binds PS PSs Ends TS FunD FnScope Env0 CE CR XK Vals cxOf start SqL SqT HO Only defArgs defBody defScope Cls NoAttr Meth Mk)
def Df.star (d:Df):Bool:=(L2.defArgs d.st).vararg.isSome
theorem n4 {d:Df} {p:Prop} (e:d.star=false) (h:d.star=true):p:=by
 rw[e]at h
 cases h
def lM:List (Str×Nat)→Str→Option Nat
 | [],_=>none
 | (a,b) :: r,k=>if a=k then some b else lM r k
theorem ao {α:Type}:∀ {l:List (Nat×α)} {k:Nat} {a:α},ak l k=some a→(k,a)∈l
 | (j,b) :: r,k,a,h=>by
  cases e:Nat.beq j k with
  | true=>
   simp only[ak,e,cond_true,Option.some.injEq]at h
   rw[h,Nat.eq_of_beq_eq_true e];exact List.mem_cons_self ..
  | false=>
   simp only[ak,e,cond_false]at h
   exact List.mem_cons_of_mem _ (ao h)
def Df.isF (d:Df):Bool:=d.gir.isNone
def Tab.P (t:Tab):Prg:=⟨fun f=>match ak t.defs f with
 | some d=>bif d.isF then some ⟨d.ps.length,d.N.length,d.ir⟩ else none
 | none=>none,fun c=>match ak t.cls c with
 | some k=>some ⟨k.init,k.flds⟩
 | none=>none,t.W,fun f=>match ak t.defs f with
 | some d=>d.gir.map fun b=>⟨d.ps.length,d.N.length,b⟩
 | none=>none,fun f=>match ak t.defs f with
 | some d=>d.rse&&(d.isF&&!d.rep&&d.kwd.isEmpty&&!d.star)
 | none=>false,fun f=>match ak t.defs f with
 | some d=>d.rse&&(d.isF&&!d.rep&&!d.kwd.isEmpty)
 | none=>false,fun c=>match ak t.cls c with
 | some _=>none
 | none=>(ak t.dks.xi c).map (·.fl),fun c k=>(t.dks.xu.find? fun x=>Nat.beq x.1 c&&Nat.beq x.2.1 k).map (·.2.2),fun c x=>(t.dks.xq.find? fun e=>Nat.beq e.1 c&&e.2.1 == x).map (·.2.2.2),fun f=>match ak t.defs f with
 | some d=>d.hot&&(d.isF&&!d.rep&&d.kwd.isEmpty&&!d.star)
 | none=>false⟩
def Tab.fvs (t:Tab):List (Str×D):=(t.defs.map (·.1)).filterMap fun k=>match ak t.defs k with
 | some d=>bif d.top&&(d.isF&&!d.rep) then some (d.at_.1,D.fn k) else none
 | none=>none
def Tab.cons0 (t:Tab):List (Str×D):=t.txs.map (fun p=>(p.1,D.str p.2))++(t.nts.map (fun p=>(p.1,D.int p.2))++((t.dks.ds.map fun p=>(p.1,D.kd (p.2.map fun q=>(q.1,D.str q.2))))++t.dks.ts.map fun p=>(p.1,D.tup (p.2.map D.str))))
def Tab.cons (t:Tab):List (Str×D):=t.cons0++t.fvs
def Tab.I (t:Tab):SI where
 fi:=fun f=>match ak t.defs f with
  | some d=>bif d.isF&&!d.rep then (bif d.kwd.isEmpty then (bif d.star then none else some ⟨d.at_.1,d.ps,d.top,[]⟩) else none) else none
  | none=>none
 ri:=fun f=>match ak t.defs f with
  | some d=>bif d.isF&&(d.rep&&d.top) then some ⟨d.at_.1,d.ps,d.top,[]⟩ else none
  | none=>none
 gi:=fun f=>match ak t.defs f with
  | some d=>bif d.isF then none else some ⟨d.at_.1,d.ps,d.top,[]⟩
  | none=>none
 cn:=fun c=>match ak t.cls c with
  | some k=>some k.nm
  | none=>none
 ms:=fun c m=>match ak t.cls c with
  | some k=>lM k.ms m
  | none=>none
 free:=fun x=>t.frees.contains x
 con:=fun x=>aY t.cons x
 rep:=false
 kw:=fun f e=>match ak t.defs f with
  | some d=>d.kws.contains e
  | none=>false
 di:=fun f=>match ak t.defs f with
  | some d=>bif d.isF&&!d.rep then (bif d.kwd.isEmpty then none else some ⟨d.at_.1,d.ps,d.top,d.kwd.map (·.2)⟩) else none
  | none=>none
 nc:=fun c=>match ak t.cls c with
  | some k=>t.dks.cs.contains k.nm
  | none=>false
 sti:=fun f=>match ak t.defs f with
  | some d=>d.isF&&!d.rep&&d.kwd.isEmpty&&d.star
  | none=>false
 xc:=fun c=>match ak t.cls c with
  | some _=>none
  | none=>ak t.dks.xs c
 xi:=fun c=>match ak t.cls c with
  | some _=>none
  | none=>(ak t.dks.xi c).map (·.nm)
 xn:=fun c=>match ak t.cls c with
  | some _=>none
  | none=>t.dks.xnm c
 xq:=fun x=>t.dks.xq.any fun e=>e.2.1 == x
def Tab.pl (t:Tab) (f:Nat):Str×Option Str:=match ak t.defs f with
 | some d=>d.at_
 | none=>("",none)
def Tab.clsC (t:Tab):Bool:=t.cls.all fun k=>decide (t.pl k.2.init=(k.2.nm,some ("__init__":Str)))&&(match ak t.defs k.2.init with | some d=>d.isF&&!d.rep&&d.kwd.isEmpty&&!d.star | none=>false)&&k.2.ms.all fun m=>decide (t.pl m.2=(k.2.nm,some m.1))
def Tab.xiC (t:Tab):Bool:=t.dks.xi.all (fun x=>(ak t.cls x.1).isNone&&(ak t.dks.xs x.1).isNone&&(match ak t.defs x.2.init with
 | some d=>decide (d.at_=(x.2.nm,some ("__init__":Str)))&&d.isF&&!d.rep&&d.kwd.isEmpty&&!d.star&&lO d.N (defScope d.st) x.2.base x.2.fl (defBody d.st)&&Nat.beq d.ps.length (x.2.fl.length + 1)&&Nat.ble x.2.fl.length 900&&!x.2.fl.isEmpty
 | none=>false))&&(t.dks.xu.all (fun x=>(ak t.cls x.1).isNone&&(ak t.cls x.2.1).isNone)&&t.dks.xq.all fun x=>(ak t.cls x.1).isNone)
def Tab.clsB (t:Tab):Bool:=(t.clsC&&t.xiC)&&t.defs.all fun d=>Nat.ble (d.1 + 1) 1000&&(d.2.isF&&!d.2.rep||d.2.kwd.isEmpty&&!d.2.star)
structure DfOk (t:Tab) (d:Df):Prop where
 kw:∀ e∈d.kws,∀ (kV doc pm:Value) (an:Option Addr) (cdv ct:Value) (us ws:List Value),us.length=e.1→ws.length=e.2.1.length→bindArgs (PySem.W.fnOf d.name d.qual (defArgs d.st) (defBody d.st) (defScope d.st) .none kV doc pm an cdv ct) ⟨us,e.2.1.zip ws⟩=pure (d.ps.zip (us++lL e.2.2 ws))
 sc:d.gir=none→FnScope d.N d.ps (defScope d.st)
 gsc:d.isF=false→L2.GScope d.N d.ps (defScope d.st)
 kn:d.kwd≠[]→d.kwd.length≤d.ps.length
 kb:d.kwd≠[]→∀ (D:Addr) (doc pm:Value) (an:Option Addr) (cdv ct:Value) (us ks:List Value),us.length=d.ps.length - d.kwd.length→ks.length=d.kwd.length→L2.KwChain D ((d.kwd.map (·.1)).zip ks) (bindArgs (PySem.W.fnOf d.name d.qual (defArgs d.st) (defBody d.st) (defScope d.st) .none (.ref D) doc pm an cdv ct) ⟨us,[]⟩) (d.ps.zip (us++ks))
 bd:d.kwd=[]→d.star=false→∀ (kV doc pm:Value) (an:Option Addr) (cdv ct:Value) (us:List Value),us.length=d.ps.length→bindArgs (PySem.W.fnOf d.name d.qual (defArgs d.st) (defBody d.st) (defScope d.st) .none kV doc pm an cdv ct) ⟨us,[]⟩=pure (d.ps.zip us)
 sb:d.star=true→∃ p0 pv,d.ps=[p0]++[pv]∧∀ (kV doc pm:Value) (an:Option Addr) (cdv ct:Value) (us rest:List Value),us.length=1→bindArgs (PySem.W.fnOf d.name d.qual (defArgs d.st) (defBody d.st) (defScope d.st) .none kV doc pm an cdv ct) ⟨us++rest,[]⟩=(newTuple rest >>= fun t=>pure ([p0].zip us++[(pv,t)]))
 ck:(match d.gir with
  | none=>aW { t.I with rep:=d.rep } d.ir d.N (defScope d.st) (defBody d.st)
  | some b=>cf t.I b d.N (defScope d.st) (defBody d.st))=true
def Tab.Wd (t:Tab) (P:Program) (w:World) (K:PySem.W.Frag) (mg:Str→Option Value):Wd:=⟨P,w,K,mg,fun c=>match ak t.cls c with
 | some k=>He.ga K k.nm
 | none=>match t.dks.xnm c with
  | some x=>He.ga K x
  | none=>0,fun f=>He.fAd K (t.pl f)⟩
def Tab.Lk (t:Tab) (K:PySem.W.Frag) (fD:Nat→FuncData) (base:Heap):Lk:=⟨fun f=>He.fAd K (t.pl f),fD,base⟩
def Tab.T (t:Tab) (f:Nat):FnT:=match ak t.defs f with
 | some d=>⟨d.name,d.qual,defArgs d.st,defBody d.st,defScope d.st,d.N⟩
 | none=>⟨"","",defArgs (.Pass ⟨0,0,0,0⟩),[],defScope (.Pass ⟨0,0,0,0⟩),[]⟩
theorem mh {α:Type}:∀ {l:List (Str×D)} {x:Str} {d:D},aY l x=some d→(x,d)∈l
 | (a,b) :: r,x,d,h=>by
  by_cases e:a=x
  ·simp[aY,e]at h;subst h;rw[e];exact List.mem_cons_self ..
  ·simp[aY,e]at h;exact List.mem_cons_of_mem _ (mh (α:=α) h)
theorem io:∀ {l:List (Str×Nat)} {x:Str} {d:Nat},lM l x=some d→(x,d)∈l
 | (a,b) :: r,x,d,h=>by
  by_cases e:a=x
  ·simp[lM,e]at h;subst h;rw[e];exact List.mem_cons_self ..
  ·simp[lM,e]at h;exact List.mem_cons_of_mem _ (io h)
section
variable {t:Tab} {P:Program} {w:World} {K:PySem.W.Frag} {mg:Str→Option Value} {h:Heap} {more:List He.DefD}
theorem aH {fa:List He.Fa} {fn:List He.DefD} (c:He.SaysD fa fn K) {f:He.Fa} (m:f∈fa):f.ok K=true:=by
 obtain⟨i,hi,e⟩:=List.getElem_of_mem m
 exact c.fact i (by rw[List.getElem?_eq_getElem hi,e])
theorem oC (c:He.SaysD t.fa (t.defs.map (fun d=>d.2.he)++more) K):∃ fD:Nat→FuncData,∀ f d,ak t.defs f=some d→FunD K d.name d.qual (defArgs d.st) (defBody d.st) (defScope d.st) [] (d.he.kws K) (He.fAd K d.at_) (fD f):=by
 have key:∀ f:Nat,∃ fd:Option FuncData,∀ d,ak t.defs f=some d→∃ g,fd=some g∧FunD K d.name d.qual (defArgs d.st) (defBody d.st) (defScope d.st) [] (d.he.kws K) (He.fAd K d.at_) g:=fun f=>by
  cases e:ak t.defs f with
  | none=>exact⟨none,fun d z=>by cases z⟩
  | some d=>
   obtain⟨i,hi,ei⟩:=List.getElem_of_mem (ao e)
   obtain⟨g,hg⟩:=c.def_ i (d:=d.he) (by
    rw[List.getElem?_append_left (by simpa using hi),List.getElem?_map,List.getElem?_eq_getElem hi,ei];rfl)
   exact⟨some g,fun d' z=>by cases z;exact⟨g,rfl,hg⟩⟩
 obtain⟨fo,hfo⟩:=Classical.axiomOfChoice key
 by_cases ne:Nonempty FuncData
 ·obtain⟨x0⟩:=ne
  refine⟨fun f=>(fo f).getD x0,fun f d e=>?_⟩
  obtain⟨g,h1,h2⟩:=hfo f d e
  simp only[h1,Option.getD_some];exact h2
 ·exact absurd ⟨PySem.W.fnOf "" "" (defArgs (.Pass ⟨0,0,0,0⟩)) [] (defScope (.Pass ⟨0,0,0,0⟩)) .none .none .none .none none .none .none⟩ ne
theorem uF (KX:K.In h) (G:h.Ns mainGlobals mg) (c:He.SaysD t.fa (t.defs.map (fun d=>d.2.he)++more) K) (ck:fJ K t.dks=mu t.dks w) (hc:t.clsB=true) (hd:∀ d∈t.defs,DfOk t d.2)
  {fD:Nat→FuncData} (hf:∀ f d,ak t.defs f=some d→FunD K d.name d.qual (defArgs d.st) (defBody d.st) (defScope d.st) [] (d.he.kws K) (He.fAd K d.at_) (fD f)) (base:Heap):
  SIok (t.Wd P w K mg) t.P t.I (t.Lk K fD base)∧FOk (t.Wd P w K mg) t.P t.I (t.Lk K fD base) t.T:=by
 have hlow:t.defs.all (fun d=>Nat.ble (d.1 + 1) 1000&&(d.2.isF&&!d.2.rep||d.2.kwd.isEmpty&&!d.2.star))=true:=by
  unfold Tab.clsB at hc
  rw[Bool.and_eq_true]at hc
  exact hc.2
 have hxi:t.xiC=true:=by
  unfold Tab.clsB at hc
  rw[Bool.and_eq_true,Bool.and_eq_true]at hc
  exact hc.1.2
 have hc:t.clsC=true:=by
  unfold Tab.clsB at hc
  rw[Bool.and_eq_true,Bool.and_eq_true]at hc
  exact hc.1.1
 have none_:∀ f,1000≤f→ak t.defs f=none:=fun f hf=>by
  cases e:ak t.defs f with
  | none=>rfl
  | some d=>
   have:=List.all_eq_true.mp hlow _ (ao e)
   rw[Bool.and_eq_true]at this
   have:=Nat.le_of_ble_eq_true this.1
   dsimp only at this
   omega
 have kwE:∀ f d,ak t.defs f=some d→(d.isF&&!d.rep)=false→d.kwd=[]:=fun f d e h=>by
  have:=List.all_eq_true.mp hlow _ (ao e)
  dsimp only at this
  rw[Bool.and_eq_true,h,Bool.false_or,Bool.and_eq_true,List.isEmpty_iff]at this
  exact this.2.1
 have vb:∀ f d,ak t.defs f=some d→(d.isF&&!d.rep)=false→d.star=false:=fun f d e h=>by
  have:=List.all_eq_true.mp hlow _ (ao e)
  dsimp only at this
  rw[Bool.and_eq_true,h,Bool.false_or,Bool.and_eq_true,Bool.not_eq_true']at this
  exact this.2.2
 have F0:∀ f d,ak t.defs f=some d→d.kwd=[]→FunD K d.name d.qual (defArgs d.st) (defBody d.st) (defScope d.st) [] [] (He.fAd K d.at_) (fD f):=fun f d e h=>by
  have F:=hf f d e
  have z:d.he.kws K=[]:=by
   unfold He.DefD.kws Df.he
   rw[h];rfl
  rw[z]at F
  exact F
 have di:∀ f i,t.I.di f=some i→∃ d,ak t.defs f=some d∧i=⟨d.at_.1,d.ps,d.top,d.kwd.map (·.2)⟩∧d.isF=true∧d.rep=false∧d.kwd≠[]:=fun f i e=>by
  have e:(match ak t.defs f with | some d=>bif d.isF&&!d.rep then (bif d.kwd.isEmpty then none else some (FS.mk d.at_.1 d.ps d.top (d.kwd.map (·.2)))) else none | none=>none)=some i:=e
  split at e
  ·rename_i d hd
   cases hF:d.isF with
   | true=>
    cases hR:d.rep with
    | false=>
     cases hK:d.kwd with
     | nil=>rw[hF,hR,hK]at e;cases e
     | cons a r=>rw[hF,hR,hK]at e;cases e;exact⟨d,hd,(by rw[hK]),hF,hR,(by rw[hK];exact fun z=>by cases z)⟩
    | true=>rw[hF,hR]at e;cases e
   | false=>rw[hF]at e;cases e
  ·cases e
 have fi:∀ f i,t.I.fi f=some i→∃ d,ak t.defs f=some d∧i=⟨d.at_.1,d.ps,d.top,[]⟩∧d.isF=true∧d.rep=false∧d.kwd=[]:=fun f i e=>by
  have e:(match ak t.defs f with | some d=>bif d.isF&&!d.rep then (bif d.kwd.isEmpty then (bif d.star then none else some (FS.mk d.at_.1 d.ps d.top [])) else none) else none | none=>none)=some i:=e
  split at e
  ·rename_i d hd
   cases hF:d.isF with
   | true=>
    cases hR:d.rep with
    | false=>
     cases hK:d.kwd with
     | nil=>
      cases hS:d.star with
      | true=>rw[hF,hR,hK,hS]at e;cases e
      | false=>rw[hF,hR,hK,hS]at e;cases e;exact⟨d,hd,rfl,hF,hR,hK⟩
     | cons a r=>rw[hF,hR,hK]at e;cases e
    | true=>rw[hF,hR]at e;cases e
   | false=>rw[hF]at e;cases e
  ·cases e
 have fiS:∀ f i d,t.I.fi f=some i→ak t.defs f=some d→d.star=false:=fun f i d e e1=>by
  have e:(match ak t.defs f with | some d=>bif d.isF&&!d.rep then (bif d.kwd.isEmpty then (bif d.star then none else some (FS.mk d.at_.1 d.ps d.top [])) else none) else none | none=>none)=some i:=e
  rw[e1]at e
  dsimp only at e
  cases hS:d.star with
  | false=>rfl
  | true=>
   rw[hS]at e
   cases hA:(d.isF&&!d.rep) with
   | false=>rw[hA]at e;cases e
   | true=>
    cases hB:d.kwd.isEmpty with
    | false=>rw[hA,hB]at e;cases e
    | true=>rw[hA,hB]at e;cases e
 have si:∀ f,t.I.sti f=true→∃ d,ak t.defs f=some d∧d.isF=true∧d.rep=false∧d.kwd=[]∧d.star=true:=fun f e=>by
  have e:(match ak t.defs f with | some d=>d.isF&&!d.rep&&d.kwd.isEmpty&&d.star | none=>false)=true:=e
  split at e
  ·rename_i d hd
   simp only[Bool.and_eq_true,Bool.not_eq_true',List.isEmpty_iff]at e
   exact⟨d,hd,e.1.1.1,e.1.1.2,e.1.2,e.2⟩
  ·cases e
 have ri:∀ f i,t.I.ri f=some i→∃ d,ak t.defs f=some d∧i=⟨d.at_.1,d.ps,d.top,[]⟩∧d.isF=true∧d.rep=true∧d.top=true:=fun f i e=>by
  have e:(match ak t.defs f with | some d=>bif d.isF&&(d.rep&&d.top) then some (FS.mk d.at_.1 d.ps d.top []) else none | none=>none)=some i:=e
  split at e
  ·rename_i d hd
   cases hF:d.isF with
   | true=>
    cases hR:d.rep with
    | false=>rw[hF,hR]at e;cases e
    | true=>
     cases hT:d.top with
     | false=>rw[hF,hR,hT]at e;cases e
     | true=>rw[hF,hR,hT]at e;cases e;exact⟨d,hd,(by rw[hT]),hF,hR,hT⟩
   | false=>rw[hF]at e;cases e
  ·cases e
 have fdi:∀ f i,(t.I.fi f=some i∨t.I.di f=some i)→∃ d,ak t.defs f=some d∧i.ps=d.ps∧d.isF=true∧d.rep=false:=fun f i e=>by
  rcases e with e | e
  ·obtain⟨d,e1,rfl,hF,hR,_⟩:=fi f i e
   exact⟨d,e1,rfl,hF,hR⟩
  ·obtain⟨d,e1,rfl,hF,hR,_⟩:=di f i e
   exact⟨d,e1,rfl,hF,hR⟩
 have gi:∀ f i,t.I.gi f=some i→∃ d,ak t.defs f=some d∧i=⟨d.at_.1,d.ps,d.top,[]⟩∧d.isF=false:=fun f i e=>by
  have e:(match ak t.defs f with | some d=>bif d.isF then none else some (FS.mk d.at_.1 d.ps d.top []) | none=>none)=some i:=e
  split at e
  ·rename_i d hd
   cases hF:d.isF with
   | true=>rw[hF]at e;cases e
   | false=>rw[hF]at e;cases e;exact⟨d,hd,rfl,hF⟩
  ·cases e
 have at_:∀ f d,ak t.defs f=some d→(t.Lk K fD base).fA f=He.fAd K d.at_:=fun f d e=>by
  show He.fAd K (t.pl f)=_
  unfold Tab.pl;rw[e]
 have cl:∀ k∈t.cls,∀ f∈(He.Fa.glo k.2.nm :: .cls k.2.nm :: .mkr k.2.nm :: (k.2.flds.map (.noat k.2.nm)++k.2.ms.map fun m=>.meth k.2.nm m.1)),f.ok K=true:=fun k hk f hf=>
  aH c (by
   unfold Tab.fa
   simp only[List.mem_append]
   exact .inr (.inr (.inr (.inr (.inl (List.mem_flatMap.mpr ⟨k,hk,hf⟩))))))
 have cAt:∀ c k,ak t.cls c=some k→(t.Wd P w K mg).cA c=He.ga K k.nm:=fun c k e=>by
  show (match ak t.cls c with | some k=>He.ga K k.nm | none=>match t.dks.xnm c with | some x=>He.ga K x | none=>0)=_
  rw[e]
 have clsP:∀ c k,t.P.cls c=some k→∃ q,ak t.cls c=some q∧k=⟨q.init,q.flds⟩:=fun c k e=>by
  have e:(match ak t.cls c with | some k=>some (Cl.mk k.init k.flds) | none=>none)=some k:=e
  split at e
  ·rename_i q hq;cases e;exact⟨q,hq,rfl⟩
  ·cases e
 have clsC:∀ q∈t.cls,Cls K (He.ga K q.2.nm):=fun q hq=>He.cls_ok (cl _ hq _ (List.mem_cons_of_mem _ (List.mem_cons_self ..)))
 have hB:=List.all_eq_true.mp hc
 obtain⟨_,_,_,_,ckx,cku,ckq⟩:=dN ck
 have cX:∀ c x,ak t.cls c=none→t.dks.xnm c=some x→(t.Wd P w K mg).cA c=He.ga K x:=fun c x e e'=>by
  show (match ak t.cls c with | some k=>He.ga K k.nm | none=>match t.dks.xnm c with | some x=>He.ga K x | none=>0)=_
  rw[e]
  dsimp only
  rw[e']
 have faX:∀ f∈(t.dks.xi.flatMap (fun p=>He.Fa.glo p.2.nm :: bif p.2.own then [.glo p.2.base] else [.free p.2.base])),f.ok K=true:=fun f hf=>aH c (by
  unfold Tab.fa
  simp only[List.mem_append]
  exact .inr (.inr (.inr (.inr (.inr (.inr (.inr (.inl hf))))))))
 have faQ:∀ p∈t.dks.xq,(bif p.2.2.1 then He.Fa.glo p.2.1 else .free p.2.1).ok K=true:=fun p hp=>aH c (by
  unfold Tab.fa
  simp only[List.mem_append]
  exact .inr (.inr (.inr (.inr (.inr (.inr (.inr (.inr (.inr (List.mem_map.mpr ⟨p,hp,rfl⟩))))))))))
 unfold Tab.xiC at hxi
 simp only[Bool.and_eq_true]at hxi
 have xi1:=List.all_eq_true.mp hxi.1
 have xu1:=List.all_eq_true.mp hxi.2.1
 have xq1:=List.all_eq_true.mp hxi.2.2
 refine⟨⟨fun f i e=>?_,fun f i e=>?_,fun f i e=>?rn,fun f i e ht=>?_,fun c k e=>?_,fun c x e=>?_,fun c m f e=>?_,fun x e=>?_,fun f i e=>rfl,fun x d e=>?_,fun f i e=>?fin,fun f i e ht=>?dn,fun c e=>?nn,fun f i e e' hk=>?kw,fun cc x e=>?xk,fun cc x fl e e'=>?xik,fun k x e=>?xn,fun cc k b e=>?xsu,fun cc x b e=>?xis,fun x e=>?xq,fun cc fl e=>?xfd⟩,⟨fun f i e=>?ffd,fun f i e=>?fsc,fun f i e=>?fbd,fun f i e=>?rfd,fun f i e=>?rsc,fun f i e=>?rbd,fun f i e=>?_,fun f i e=>?_,fun f i e=>?_,fun f e=>?sfd,fun f e=>?ssc,fun f e=>?sbd,fun f e=>?xf,fun f e=>?xd,fun f i e=>?xno,fun f e=>?hh,fun f e=>?hno,fun f i e=>?_⟩⟩
 case dn=>
  obtain⟨d,e1,rfl,hF,hR,hK⟩:=di f i e
  have F:=hf f d e1
  rw[at_ f d e1]
  have ht:d.at_.2.isNone=true:=ht
  have m:He.Fa.glo d.at_.1∈t.fa:=by
   unfold Tab.fa
   simp only[List.mem_append]
   exact .inr (.inr (.inr (.inl (List.mem_map.mpr ⟨_,List.mem_filter.mpr ⟨ao e1,ht⟩,rfl⟩))))
  have r:=He.glo_ok KX G (aH c m)
  have ea:He.fAd K d.at_=He.ga K d.at_.1:=by
   unfold He.fAd
   cases q:d.at_.2 with
   | none=>rfl
   | some _=>rw[q]at ht;cases ht
  have ok:=hd _ (ao e1)
  have k1:(d.he.kws K).map (·.1)=d.kwd.map (·.1):=by
   unfold He.DefD.kws Df.he
   simp only[List.map_map]
   rfl
  have k2:(d.he.kws K).map (·.2)=(d.kwd.map (·.2)).map L2.V.int:=by
   unfold He.DefD.kws Df.he
   simp only[List.map_map]
   rfl
  have kl:(d.he.kws K).length=d.kwd.length:=by
   unfold He.DefD.kws Df.he
   simp only[List.length_map]
  have kn:d.kwd.length≤d.ps.length:=ok.kn hK
  obtain⟨ds,h1,h2⟩:=F.binds0 (ps:=d.ps) (d.ps.length - d.kwd.length) (fun z=>hK (List.length_eq_zero_iff.mp (by rw[← kl,z];rfl))) (by rw[kl];omega) (fun D doc pm an cdv ct us ks h3 h4=>by
   rw[k1]
   exact ok.kb hK D doc pm an cdv ct us ks h3 (by rw[h4,kl]))
  rw[k2]at h1
  exact⟨F.kp,by rw[ea];exact r,ds,h1,h2⟩
 case xk=>
  have e:(match ak t.cls cc with | some _=>none | none=>ak t.dks.xs cc)=some x:=e
  split at e
  ·cases e
  ·rename_i e0
   have ea:(t.Wd P w K mg).cA cc=He.ga K x:=by
    show (match ak t.cls cc with | some k=>He.ga K k.nm | none=>match t.dks.xnm cc with | some x=>He.ga K x | none=>0)=_
    rw[e0]
    dsimp only
    unfold Dks.xnm
    rw[e]
   have g:=He.glo_ok KX G (aH c (f:=.glo x) (by
    unfold Tab.fa
    simp only[List.mem_append]
    exact .inr (.inr (.inr (.inr (.inr (.inl (List.mem_map.mpr ⟨(cc,x),ao e,rfl⟩))))))))
   obtain⟨_,_,_,ck4,_⟩:=dN ck
   obtain⟨i,hi,ei⟩:=List.getElem_of_mem (ao e)
   have z:=congrArg (fun l=>l[i]?) ck4
   simp only[List.getElem?_map,List.getElem?_eq_getElem hi,Option.map_some,ei]at z
   obtain⟨z1,z2,z3,z4,z5⟩:=tD (Option.some.inj z)
   exact⟨by rw[ea];exact g,by rw[ea];exact z2,by rw[ea];exact z1,by rw[ea];exact z3,by rw[ea];exact z4,by rw[ea];exact z5⟩
 case xf=>
  have e:(match ak t.defs f with | some d=>d.rse&&(d.isF&&!d.rep&&d.kwd.isEmpty&&!d.star) | none=>false)=true:=e
  split at e
  ·rename_i d hd'
   simp only[Bool.and_eq_true,Bool.not_eq_true']at e
   obtain⟨_,⟨⟨e1,e2⟩,e3⟩,e4⟩:=e
   show Option.isSome (match ak t.defs f with | some d=>bif d.isF&&!d.rep then (bif d.kwd.isEmpty then (bif d.star then none else some (FS.mk d.at_.1 d.ps d.top [])) else none) else none | none=>none)=true
   rw[hd']
   dsimp only
   rw[e1,e2,e3,e4]
   rfl
  ·cases e
 case hh=>
  have e:(match ak t.defs f with | some d=>d.hot&&(d.isF&&!d.rep&&d.kwd.isEmpty&&!d.star) | none=>false)=true:=e
  split at e
  ·rename_i d hd'
   simp only[Bool.and_eq_true,Bool.not_eq_true']at e
   obtain⟨_,⟨⟨e1,e2⟩,e3⟩,e4⟩:=e
   show Option.isSome (match ak t.defs f with | some d=>bif d.isF&&!d.rep then (bif d.kwd.isEmpty then (bif d.star then none else some (FS.mk d.at_.1 d.ps d.top [])) else none) else none | none=>none)=true
   rw[hd']
   dsimp only
   rw[e1,e2,e3,e4]
   rfl
  ·cases e
 case hno=>
  refine⟨?_,?_,?_,?_⟩
  ·show (match ak t.defs (20000 + f) with | some d=>bif d.isF then some (Fn.mk d.ps.length d.N.length d.ir) else none | none=>none)=_
   rw[none_ _ (by omega)]
  ·show (match ak t.defs (20000 + f) with | some d=>d.gir.map fun b=>Gn.mk d.ps.length d.N.length b | none=>none)=_
   rw[none_ _ (by omega)]
  ·show (match ak t.defs (10000 + f) with | some d=>d.rse&&(d.isF&&!d.rep&&d.kwd.isEmpty&&!d.star) | none=>false)=_
   rw[none_ _ (by omega)]
  ·show (match ak t.defs (10000 + f) with | some d=>d.rse&&(d.isF&&!d.rep&&!d.kwd.isEmpty) | none=>false)=_
   rw[none_ _ (by omega)]
 case xno=>
  have z:∀ g,1000≤g→t.P.fns g=none∧t.P.gns g=none:=fun g hg=>by
   refine⟨?_,?_⟩
   ·show (match ak t.defs g with | some d=>bif d.isF then some (Fn.mk d.ps.length d.N.length d.ir) else none | none=>none)=_
    rw[none_ g hg]
   ·show (match ak t.defs g with | some d=>d.gir.map fun b=>Gn.mk d.ps.length d.N.length b | none=>none)=_
    rw[none_ g hg]
  refine⟨?_,(z _ (by omega)).1,(z _ (by omega)).2⟩
  obtain⟨d,e1,_⟩:=fdi f i e
  by_cases hf:1000≤f
  ·rw[none_ f hf]at e1;cases e1
  ·omega
 case xd=>
  have e:(match ak t.defs f with | some d=>d.rse&&(d.isF&&!d.rep&&!d.kwd.isEmpty) | none=>false)=true:=e
  split at e
  ·rename_i d hd'
   simp only[Bool.and_eq_true,Bool.not_eq_true']at e
   obtain⟨_,⟨e1,e2⟩,e3⟩:=e
   show Option.isSome (match ak t.defs f with | some d=>bif d.isF&&!d.rep then (bif d.kwd.isEmpty then none else some (FS.mk d.at_.1 d.ps d.top (d.kwd.map (·.2)))) else none | none=>none)=true
   rw[hd']
   dsimp only
   rw[e1,e2,e3]
   rfl
  ·cases e
 case xik=>
  have e:(match ak t.cls cc with | some _=>none | none=>(ak t.dks.xi cc).map (·.nm))=some x:=e
  have e':(match ak t.cls cc with | some _=>none | none=>(ak t.dks.xi cc).map (·.fl))=some fl:=e'
  split at e
  ·cases e
  ·rename_i e0
   rw[e0]at e'
   obtain⟨q,hq,rfl⟩:=Option.map_eq_some_iff.mp e
   rw[hq]at e'
   cases e'
   have hm:=ao hq
   have st:=xi1 _ hm
   simp only[Bool.and_eq_true,Option.isNone_iff_eq_none]at st
   obtain⟨⟨_,st1⟩,st2⟩:=st
   have ea:(t.Wd P w K mg).cA cc=He.ga K q.nm:=cX cc q.nm e0 (by unfold Dks.xnm;rw[st1,hq])
   have ob:=map_some (f:=fun x:Nat×Xc=>fH K x.2) ckx hm
   obtain⟨T,iC,tI,q1,q2,q3⟩:=kN ob
   have gl:=faX (.glo q.nm) (List.mem_flatMap.mpr ⟨_,hm,List.mem_cons_self ..⟩)
   have hb:iY K mg q.base (xB q.bi).2.2.1:=vG q3 (fun ho=>He.glo_ok KX G (faX (.glo q.base) (List.mem_flatMap.mpr ⟨_,hm,List.mem_cons_of_mem _ (by dsimp only;rw[ho];exact List.mem_cons_self ..)⟩)))
    (fun ho=>He.free_ok KX G (faX (.free q.base) (List.mem_flatMap.mpr ⟨_,hm,List.mem_cons_of_mem _ (by dsimp only;rw[ho];exact List.mem_cons_self ..)⟩)))
   split at st2
   rotate_left
   ·cases st2
   rename_i dd hdd
   simp only[Bool.and_eq_true,decide_eq_true_eq,Bool.not_eq_true',List.isEmpty_iff]at st2
   obtain⟨⟨⟨⟨⟨⟨⟨⟨s1,s2⟩,s3⟩,s4⟩,s5⟩,s6⟩,s7⟩,s8⟩,s9⟩:=st2
   have F:=F0 q.init dd hdd s4
   rw[s1]at F
   have S:=(hd _ (ao hdd)).sc (Option.isNone_iff_eq_none.mp s2)
   have B:=F.bindsN ((hd _ (ao hdd)).bd s4 s5)
   refine⟨by rw[ea];exact He.glo_ok KX G gl,⟨_,_,_,_,by rw[ea];exact T⟩,⟨He.fAd K (q.nm,some "__init__"),fD q.init,dd.ps,by rw[ea];exact iC,tI,?_,B,?_⟩,Nat.le_of_ble_eq_true s8⟩
   ·rw[ea]
    exact wQ (W:=t.Wd P w K mg) F S (Nat.eq_of_beq_eq_true s7) T (jr q.bi).2.2.1 hb (Nat.le_of_ble_eq_true s8) (fun z=>by have z:q.fl=[]:=z;rw[z]at s9;cases s9) q2 s6
   ·rw[ea]
    exact uK (W:=t.Wd P w K mg) F S (Nat.eq_of_beq_eq_true s7) T (jr q.bi).2.2.1 hb (Nat.le_of_ble_eq_true s8) (fun z=>by have z:q.fl=[]:=z;rw[z]at s9;cases s9) q2 s6
 case xn=>
  have e:(match ak t.cls k with | some _=>none | none=>t.dks.xnm k)=some x:=e
  split at e
  ·cases e
  ·rename_i e0
   rw[cX k x e0 e]
   unfold Dks.xnm at e
   split at e
   ·rename_i y hy
    cases e
    exact He.glo_ok KX G (aH c (f:=.glo x) (by
     unfold Tab.fa
     simp only[List.mem_append]
     exact .inr (.inr (.inr (.inr (.inr (.inl (List.mem_map.mpr ⟨(k,x),ao hy,rfl⟩))))))))
   ·split at e
    ·rename_i q hq
     cases e
     exact He.glo_ok KX G (faX (.glo q.nm) (List.mem_flatMap.mpr ⟨_,ao hq,List.mem_cons_self ..⟩))
    ·exact He.glo_ok KX G (aH c (f:=.glo x) (by
      unfold Tab.fa
      simp only[List.mem_append]
      exact .inr (.inr (.inr (.inr (.inr (.inr (.inr (.inr (.inl (List.mem_map.mpr ⟨(k,x),ao e,rfl⟩)))))))))))
 case xsu=>
  have e:(t.dks.xu.find? fun x=>Nat.beq x.1 cc&&Nat.beq x.2.1 k).map (·.2.2)=some b:=e
  obtain⟨y,hy,rfl⟩:=Option.map_eq_some_iff.mp e
  have hp:=List.find?_some hy
  have hm:=List.mem_of_find?_eq_some hy
  rw[Bool.and_eq_true]at hp
  have h1:=Nat.eq_of_beq_eq_true hp.1
  have h2:=Nat.eq_of_beq_eq_true hp.2
  subst h1 h2
  have ob:=map_some (f:=fun x=>sv K t.dks x) cku hm
  have st:=xu1 _ hm
  simp only[Bool.and_eq_true,Option.isNone_iff_eq_none]at st
  unfold sv at ob
  split at ob
  ·rename_i a b' ha hb
   rw[cX _ a st.1 ha,cX _ b' st.2 hb]
   exact of_decide_eq_true ob
  ·cases ob
 case xis=>
  have e:(t.dks.xq.find? fun e=>Nat.beq e.1 cc&&e.2.1 == x).map (·.2.2.2)=some b:=e
  obtain⟨y,hy,rfl⟩:=Option.map_eq_some_iff.mp e
  have hp:=List.find?_some hy
  have hm:=List.mem_of_find?_eq_some hy
  rw[Bool.and_eq_true,beq_iff_eq]at hp
  obtain⟨h1,rfl⟩:=hp
  have h1:=Nat.eq_of_beq_eq_true h1
  subst h1
  have ob:=map_some (f:=fun x=>lP K t.dks x) ckq hm
  have st:=xq1 _ hm
  simp only[Option.isNone_iff_eq_none]at st
  unfold lP at ob
  split at ob
  ·rename_i a ha
   rw[cX _ a st ha]
   rw[Bool.and_eq_true]at ob
   refine⟨nJ ob.1,fun v u hv=>?_⟩
   have ob2:=ob.2
   have fq:=faQ _ hm
   split at ob2
   ·rename_i ho
    rw[ho]at fq
    have g:=He.glo_ok KX G fq
    cases hv with
    | own D hD=>
     have hD:mg y.2.1=some (.ref D):=hD
     rw[g]at hD
     cases hD
     exact of_decide_eq_true ob2
    | blt T hD _ _=>
     have hD:mg y.2.1=none:=hD
     rw[g]at hD
     cases hD
   ·rename_i ho
    rw[ho]at fq
    have g:=He.free_ok KX G fq
    split at ob2
    ·rename_i T hT
     rw[Bool.and_eq_true]at ob2
     cases hv with
     | own D hD=>
      have hD:mg y.2.1=some (.ref D):=hD
      rw[g]at hD
      cases hD
     | blt T' hD hT' _=>
      rw[hT]at hT'
      cases hT'
      exact of_decide_eq_true ob2.1
    ·cases ob2
  ·cases ob
 case xq=>
  have e:(t.dks.xq.any fun e=>e.2.1 == x)=true:=e
  obtain⟨y,hm,hy⟩:=List.any_eq_true.mp e
  rw[beq_iff_eq]at hy
  subst hy
  have ob:=map_some (f:=fun x=>lP K t.dks x) ckq hm
  have fq:=faQ _ hm
  unfold lP at ob
  split at ob
  ·rw[Bool.and_eq_true]at ob
   have ob2:=ob.2
   split at ob2
   ·rename_i ho
    rw[ho]at fq
    exact⟨_,_,.own _ (He.glo_ok KX G fq)⟩
   ·rename_i ho
    rw[ho]at fq
    split at ob2
    ·rename_i T hT
     rw[Bool.and_eq_true,Bool.not_eq_true']at ob2
     exact⟨_,_,.blt T (He.free_ok KX G fq) hT ob2.2⟩
    ·cases ob2
  ·cases ob
 case xfd=>
  have e:(match ak t.cls cc with | some _=>none | none=>(ak t.dks.xi cc).map (·.fl))=some fl:=e
  split at e
  ·cases e
  ·rename_i e0
   obtain⟨q,hq,rfl⟩:=Option.map_eq_some_iff.mp e
   have hm:=ao hq
   have st:=xi1 _ hm
   simp only[Bool.and_eq_true,Option.isNone_iff_eq_none]at st
   rw[cX cc q.nm e0 (by unfold Dks.xnm;rw[st.1.2,hq])]
   obtain⟨_,_,_,q1,q2,_⟩:=kN (map_some (f:=fun x:Nat×Xc=>fH K x.2) ckx hm)
   exact⟨q1,q2⟩
 case nn=>
  have e:(match ak t.cls c with | some k=>t.dks.cs.contains k.nm | none=>false)=true:=e
  split at e
  ·rename_i q e1
   rw[cAt c q e1]
   obtain⟨_,_,ck3,_⟩:=dN ck
   obtain⟨i,hi,ei⟩:=List.getElem_of_mem (List.contains_iff_mem.mp e)
   have z:=congrArg (fun l=>l[i]?) ck3
   simp only[List.getElem?_map,List.getElem?_eq_getElem hi,Option.map_some,ei]at z
   exact sH (Option.some.inj z)
  ·cases e
 case ffd=>
  obtain⟨d,e1,ep,hF,hR⟩:=fdi f i e
  refine⟨d.he.kws K,?_⟩
  have F:=hf f d e1
  rw[at_ f d e1]
  unfold Tab.T
  rw[e1]
  exact F
 case fsc=>
  obtain⟨d,e1,ep,hF,hR⟩:=fdi f i e
  unfold Tab.T
  rw[e1,ep]
  exact (hd _ (ao e1)).sc (Option.isNone_iff_eq_none.mp hF)
 case fbd=>
  obtain⟨d,e1,ep,hF,hR⟩:=fdi f i e
  refine⟨⟨d.ps.length,d.N.length,d.ir⟩,?_,?_,by rw[ep],?_⟩
  ·show (match ak t.defs f with | some d=>bif d.isF then some (Fn.mk d.ps.length d.N.length d.ir) else none | none=>none)=_
   rw[e1]
   dsimp only
   rw[hF];rfl
  ·have ck:=(hd _ (ao e1)).ck
   rw[Option.isNone_iff_eq_none.mp hF,hR]at ck
   unfold Tab.T
   rw[e1]
   exact ck
  ·unfold Tab.T
   rw[e1]
 case kw=>
  obtain⟨d,e1,ep,hF,hR⟩:=fdi f i e'
  have F:=hf f d e1
  have hk:(match ak t.defs f with | some d=>d.kws.contains e | none=>false)=true:=hk
  rw[e1]at hk
  have hk:=List.contains_iff_mem.mp hk
  obtain⟨oc,od,dV,kV,doc,pm,an,cdv,ct,osl,efd,lk,hcd,hdv,_⟩:=F.ex
  intro s us ws h1 h2
  show BindsTo s (fD f) _ _
  rw[ep,efd]
  rcases hdv with ⟨_,rfl⟩ | ⟨z,_⟩
  ·exact PySem.BindsTo.of_eq ((hd _ (ao e1)).kw e hk kV doc pm an cdv ct us ws h1 h2)
  ·exact absurd rfl z
 case fin=>
  obtain⟨d,e1,rfl,hF,hR,hK0⟩:=fi f i e
  have F:=F0 f d e1 hK0
  rw[at_ f d e1]
  obtain⟨oc,od,dV,kV,doc,pm,an,cdv,ct,osl,efd,lk,_⟩:=F.ex
  have r:PySem.W.fnIn K (He.fAd K d.at_)=true:=by
   unfold PySem.W.fnIn
   rw[lk]
  exact r
 case rn=>
  obtain⟨d,e1,rfl,hF,hR,ht⟩:=ri f i e
  have F:=F0 f d e1 (kwE f d e1 (by rw[hF,hR];rfl))
  rw[at_ f d e1]
  refine⟨F.kp,F.bindsN ((hd _ (ao e1)).bd (kwE f d e1 (by rw[hF,hR];rfl)) (vb f d e1 (by rw[hF,hR];rfl))),?_⟩
  have ht:d.at_.2.isNone=true:=ht
  have m:He.Fa.glo d.at_.1∈t.fa:=by
   unfold Tab.fa
   simp only[List.mem_append]
   exact .inr (.inr (.inr (.inl (List.mem_map.mpr ⟨_,List.mem_filter.mpr ⟨ao e1,ht⟩,rfl⟩))))
  have r:=He.glo_ok KX G (aH c m)
  have:He.fAd K d.at_=He.ga K d.at_.1:=by
   unfold He.fAd
   cases q:d.at_.2 with
   | none=>rfl
   | some _=>rw[q]at ht;cases ht
  rw[this];exact r
 case sfd=>
  obtain⟨d,e1,hF,hR,hK0,hS⟩:=si f e
  have F:=F0 f d e1 hK0
  rw[at_ f d e1]
  unfold Tab.T
  rw[e1]
  exact F
 case ssc=>
  obtain⟨d,e1,hF,hR,hK0,hS⟩:=si f e
  have F:=F0 f d e1 hK0
  obtain⟨p0,pv,ep,hb⟩:=(hd _ (ao e1)).sb hS
  refine⟨p0,pv,?_,?_⟩
  ·unfold Tab.T
   rw[e1,← ep]
   exact (hd _ (ao e1)).sc (Option.isNone_iff_eq_none.mp hF)
  ·obtain⟨oc,od,dV,kV,doc,pm,an,cdv,ct,osl,efd,lk,hcd,hdv,_⟩:=F.ex
   intro us rest hl
   show bindArgs (fD f) _=_
   rw[efd]
   rcases hdv with ⟨_,rfl⟩ | ⟨z,_⟩
   ·exact hb kV doc pm an cdv ct us rest hl
   ·exact absurd rfl z
 case sbd=>
  obtain⟨d,e1,hF,hR,hK0,hS⟩:=si f e
  obtain⟨p0,pv,ep,_⟩:=(hd _ (ao e1)).sb hS
  refine⟨⟨d.ps.length,d.N.length,d.ir⟩,?_,?_,by rw[ep];rfl,?_⟩
  ·show (match ak t.defs f with | some d=>bif d.isF then some (Fn.mk d.ps.length d.N.length d.ir) else none | none=>none)=_
   rw[e1]
   dsimp only
   rw[hF];rfl
  ·have ck:=(hd _ (ao e1)).ck
   rw[Option.isNone_iff_eq_none.mp hF,hR]at ck
   unfold Tab.T
   rw[e1]
   exact ck
  ·unfold Tab.T
   rw[e1]
 case rfd=>
  obtain⟨d,e1,rfl,hF,hR,ht⟩:=ri f i e
  have F:=F0 f d e1 (kwE f d e1 (by rw[hF,hR];rfl))
  rw[at_ f d e1]
  unfold Tab.T
  rw[e1]
  exact F
 case rsc=>
  obtain⟨d,e1,rfl,hF,hR,ht⟩:=ri f i e
  unfold Tab.T
  rw[e1]
  exact (hd _ (ao e1)).sc (Option.isNone_iff_eq_none.mp hF)
 case rbd=>
  obtain⟨d,e1,rfl,hF,hR,ht⟩:=ri f i e
  refine⟨⟨d.ps.length,d.N.length,d.ir⟩,?_,?_,rfl,?_⟩
  ·show (match ak t.defs f with | some d=>bif d.isF then some (Fn.mk d.ps.length d.N.length d.ir) else none | none=>none)=_
   rw[e1]
   dsimp only
   rw[hF];rfl
  ·have ck:=(hd _ (ao e1)).ck
   rw[Option.isNone_iff_eq_none.mp hF,hR]at ck
   unfold Tab.T
   rw[e1]
   exact ck
  ·unfold Tab.T
   rw[e1]
 ·obtain⟨d,e1,rfl,hF,hR,hK0⟩:=fi f i e
  have F:=F0 f d e1 hK0
  rw[at_ f d e1]
  exact⟨F.kp,F.bindsN ((hd _ (ao e1)).bd hK0 (fiS f _ d e e1))⟩
 ·obtain⟨d,e1,rfl,hF⟩:=gi f i e
  have F:=F0 f d e1 (kwE f d e1 (by rw[hF];rfl))
  rw[at_ f d e1]
  exact⟨F.kp,F.bindsN ((hd _ (ao e1)).bd (kwE f d e1 (by rw[hF];rfl)) (vb f d e1 (by rw[hF];rfl)))⟩
 ·obtain⟨d,e1,rfl,hF,hR,hK0⟩:=fi f i e
  rw[at_ f d e1]
  have ht:d.at_.2.isNone=true:=ht
  have m:He.Fa.glo d.at_.1∈t.fa:=by
   unfold Tab.fa
   simp only[List.mem_append]
   exact .inr (.inr (.inr (.inl (List.mem_map.mpr ⟨_,List.mem_filter.mpr ⟨ao e1,ht⟩,rfl⟩))))
  have r:=He.glo_ok KX G (aH c m)
  have:He.fAd K d.at_=He.ga K d.at_.1:=by
   unfold He.fAd
   cases q:d.at_.2 with
   | none=>rfl
   | some _=>rw[q]at ht;cases ht
  rw[this];exact r
 ·obtain⟨q,e1,rfl⟩:=clsP c k e
  have hq:=ao e1
  rw[cAt c q e1]
  exact⟨clsC _ hq,fun g hg=>He.noat_ok (cl _ hq _ (List.mem_cons_of_mem _ (List.mem_cons_of_mem _ (List.mem_cons_of_mem _ (List.mem_append_left _ (List.mem_map.mpr ⟨g,hg,rfl⟩))))))⟩
 ·have e:(match ak t.cls c with | some k=>some k.nm | none=>none)=some x:=e
  split at e
  ·rename_i q e1
   cases e
   have hq:=ao e1
   have b:=hB _ hq
   simp only[Bool.and_eq_true,decide_eq_true_eq]at b
   obtain⟨⟨b1,b2⟩,b3⟩:=b
   obtain⟨d,ed,hF,hR,hK0,hS0⟩:∃ d,ak t.defs q.init=some d∧d.isF=true∧d.rep=false∧d.kwd=[]∧d.star=false:=by
    split at b2
    ·simp only[Bool.and_eq_true,Bool.not_eq_true',List.isEmpty_iff]at b2;exact⟨_,by assumption,b2.1.1.1,b2.1.1.2,b2.1.2,b2.2⟩
    ·cases b2
   refine⟨⟨q.init,q.flds⟩,⟨d.at_.1,d.ps,d.top,[]⟩,?_,?_,?_,?_⟩
   ·show (match ak t.cls c with | some k=>some (Cl.mk k.init k.flds) | none=>none)=_
    rw[e1]
   ·show (match ak t.defs q.init with | some d=>bif d.isF&&!d.rep then (bif d.kwd.isEmpty then (bif d.star then none else some (FS.mk d.at_.1 d.ps d.top [])) else none) else none | none=>none)=_
    rw[ed]
    dsimp only
    rw[hF,hR,hK0,hS0];rfl
   ·rw[cAt c q e1]
    exact He.glo_ok KX G (cl _ hq _ (List.mem_cons_self ..))
   ·rw[cAt c q e1]
    show Mk K _ (He.fAd K (t.pl q.init))
    rw[b1]
    exact He.mkr_ok (cl _ hq _ (List.mem_cons_of_mem _ (List.mem_cons_of_mem _ (List.mem_cons_self ..))))
  ·cases e
 ·have e:(match ak t.cls c with | some k=>lM k.ms m | none=>none)=some f:=e
  split at e
  ·rename_i q e1
   have hq:=ao e1
   have b:=hB _ hq
   simp only[Bool.and_eq_true,decide_eq_true_eq]at b
   have b3:=List.all_eq_true.mp b.2 (m,f) (io e)
   have b3:=of_decide_eq_true b3
   rw[cAt c q e1]
   refine⟨clsC _ hq,?_⟩
   show Meth K _ m (He.fAd K (t.pl f))
   rw[b3]
   exact He.meth_ok (cl _ hq _ (List.mem_cons_of_mem _ (List.mem_cons_of_mem _ (List.mem_cons_of_mem _ (List.mem_append_right _ (List.mem_map.mpr ⟨(m,f),io e,rfl⟩))))))
  ·cases e
 ·have e:t.frees.contains x=true:=e
  exact He.free_ok KX G (aH c (by
   unfold Tab.fa
   simp only[List.mem_append]
   exact .inl (List.mem_map.mpr ⟨x,by simpa using e,rfl⟩)))
 ·have m:=mh (α:=Unit) (show aY t.cons x=some d from e)
  obtain⟨ck1,ck2,_⟩:=dN ck
  rcases List.mem_append.mp (show (x,d)∈t.cons0++t.fvs from m) with m | m
  rotate_left
  ·obtain⟨k,_,q⟩:=List.mem_filterMap.mp m
   cases hk:ak t.defs k with
   | none=>rw[hk]at q;cases q
   | some dd=>
    rw[hk]at q
    dsimp only at q
    cases hT:dd.top with
    | false=>rw[hT]at q;cases q
    | true=>
     rw[hT]at q
     cases hF:(dd.isF&&!dd.rep) with
     | false=>rw[hF]at q;cases q
     | true=>
      rw[hF]at q
      cases q
      have hn:dd.at_.2.isNone=true:=hT
      have m:He.Fa.glo dd.at_.1∈t.fa:=by
       unfold Tab.fa
       simp only[List.mem_append]
       exact .inr (.inr (.inr (.inl (List.mem_map.mpr ⟨_,List.mem_filter.mpr ⟨ao hk,hT⟩,rfl⟩))))
      have r:=He.glo_ok KX G (aH c m)
      have ep:He.fAd K (t.pl k)=He.ga K dd.at_.1:=by
       unfold Tab.pl He.fAd
       rw[hk]
       dsimp only
       cases q:dd.at_.2 with
       | none=>rfl
       | some _=>rw[q]at hn;cases hn
      refine⟨.ref (He.ga K dd.at_.1),_,r,rfl,fun H S ρ=>?_⟩
      rw[← ep]
      exact .fn k
  rcases List.mem_append.mp m with m | m
  ·obtain⟨p,hp,e⟩:=List.mem_map.mp m
   cases e
   obtain⟨u,hu⟩:=He.str_ok KX G (aH c (by
    unfold Tab.fa
    simp only[List.mem_append]
    exact .inr (.inl (.inl (List.mem_map.mpr ⟨p,hp,rfl⟩)))))
   exact⟨.str p.2,.str p.2 u,hu,⟨u,rfl⟩,fun _ _ _=>.str _⟩
  rcases List.mem_append.mp m with m | m
  ·obtain⟨p,hp,e⟩:=List.mem_map.mp m
   cases e
   obtain⟨u,hu⟩:=He.int_ok KX G (aH c (by
    unfold Tab.fa
    simp only[List.mem_append]
    exact .inr (.inl (.inr (List.mem_map.mpr ⟨p,hp,rfl⟩)))))
   exact⟨.int p.2,.int p.2 u,hu,⟨u,rfl⟩,fun _ _ _=>.int _⟩
  rcases List.mem_append.mp m with m | m
  ·obtain⟨p,hp,e⟩:=List.mem_map.mp m
   cases e
   have g:=He.glo_ok KX G (aH c (by
    unfold Tab.fa
    simp only[List.mem_append]
    exact .inr (.inr (.inl (.inl (List.mem_map.mpr ⟨p,hp,rfl⟩))))))
   refine⟨.ref (He.ga K p.1),.ref (He.ga K p.1),g,rfl,fun _ _ _=>.kd ?_⟩
   refine wb (W:=t.Wd P w K mg) ?_
   obtain⟨i,hi,ei⟩:=List.getElem_of_mem hp
   have z:=congrArg (fun l=>l[i]?) ck1
   simp only[List.getElem?_map,List.getElem?_eq_getElem hi,Option.map_some,ei]at z
   exact Option.some.inj z
  ·obtain⟨p,hp,e⟩:=List.mem_map.mp m
   cases e
   have g:=He.glo_ok KX G (aH c (by
    unfold Tab.fa
    simp only[List.mem_append]
    exact .inr (.inr (.inl (.inr (List.mem_map.mpr ⟨p,hp,rfl⟩))))))
   obtain⟨i,hi,ei⟩:=List.getElem_of_mem hp
   have z:=congrArg (fun l=>l[i]?) ck2
   simp only[List.getElem?_map,List.getElem?_eq_getElem hi,Option.map_some,ei]at z
   have kt:=wJ (Option.some.inj z)
   refine⟨.ref (He.ga K p.1),.ref (He.ga K p.1),g,rfl,fun H S ρ=>.tup (vs:=p.2.map L2.V.str) (.inr kt) ?_⟩
   have:∀ l:List Str,RVs (t.Wd P w K mg) H S ρ (l.map D.str) (l.map L2.V.str):=fun l=>by
    induction l with
    | nil=>exact .nil
    | cons a r ih=>exact .cons (.str _) ih
   exact this _
 ·obtain⟨d,e1,rfl,hF⟩:=gi f i e
  have F:=F0 f d e1 (kwE f d e1 (by rw[hF];rfl))
  rw[at_ f d e1]
  unfold Tab.T
  rw[e1]
  exact F
 ·obtain⟨d,e1,rfl,hF⟩:=gi f i e
  unfold Tab.T
  rw[e1]
  exact (hd _ (ao e1)).gsc hF
 ·obtain⟨d,e1,rfl,hF⟩:=gi f i e
  obtain⟨b,hb⟩:∃ b,d.gir=some b:=by
   have hF:d.gir.isNone=false:=hF
   cases q:d.gir with
   | none=>rw[q]at hF;cases hF
   | some b=>exact⟨b,rfl⟩
  refine⟨?_,⟨d.ps.length,d.N.length,b⟩,?_,?_,rfl,?_⟩
  ·show (match ak t.defs f with | some d=>bif d.isF then some (Fn.mk d.ps.length d.N.length d.ir) else none | none=>none)=_
   rw[e1]
   dsimp only
   rw[hF];rfl
  ·show (match ak t.defs f with | some d=>d.gir.map fun b=>Gn.mk d.ps.length d.N.length b | none=>none)=_
   rw[e1]
   dsimp only
   rw[hb];rfl
  ·have ck:=(hd _ (ao e1)).ck
   rw[hb]at ck
   unfold Tab.T
   rw[e1]
   exact ck
  ·unfold Tab.T
   rw[e1]
 ·have z:∀ g,1000≤g→t.P.fns g=none∧t.P.gns g=none:=fun g hg=>by
   refine⟨?_,?_⟩
   ·show (match ak t.defs g with | some d=>bif d.isF then some (Fn.mk d.ps.length d.N.length d.ir) else none | none=>none)=_
    rw[none_ g hg]
   ·show (match ak t.defs g with | some d=>d.gir.map fun b=>Gn.mk d.ps.length d.N.length b | none=>none)=_
    rw[none_ g hg]
  exact⟨(z _ (by omega)).1,(z _ (by omega)).2,(z _ (by omega)).1,(z _ (by omega)).2,by
   obtain⟨d,e1,_,_⟩:=gi f i e
   by_cases hf:1000≤f
   ·rw[none_ f hf]at e1;cases e1
   ·omega⟩
end
open L2 (Cx VK Inv RelV CX0 Room FunD FnScope HO Only defArgs defBody defScope SqL)
def Tab.law (t:Tab) (b:Ss) (n d:Nat):List D→Mm→Option (D×Mm):=fun vs h=>match az t.P (call t.P d) (aj t.P d).2 b (vs.map some++aM n) h with
 | some (.nx,_,h')=>some (.non,h')
 | some (.rt r,_,h')=>some (r,h')
 | _=>none
theorem qG {l:PySem.W.OpenLaw} {n dp nn:Nat} {q:Program} {loose:List Str} {XP:(Str→Option Value)→Heap→Prop} {d:DefRec} {x:Str} (t:Tab) (dl:Df) (hn:l.most=some n) (hn2:n≤sizeLine) (hdf:d.params.defaults=[]) (hr:Room (dp + 3) callerA)
  (hc:t.clsB=true) (hd:∀ d∈t.defs,DfOk t d.2) (hps:dl.ps=[x]) (hat:dl.at_=(t.lw,none)) (hnm:d.name=t.lw) (sc:FnScope dl.N dl.ps (defScope dl.st)) (ck:aW { t.I with rep:=true } dl.ir dl.N (defScope dl.st) (defBody dl.st)=true)
  (bd:∀ (kV doc pm:Value) (an:Option Addr) (cdv ct:Value) (us:List Value),us.length=dl.ps.length→bindArgs (PySem.W.fnOf dl.name dl.qual (defArgs dl.st) (defBody dl.st) (defScope dl.st) .none kV doc pm an cdv ct) ⟨us,[]⟩=pure (dl.ps.zip us))
  (hev:∀ ns:List Int,ns.length≤n→∃ h',t.law dl.ir (dl.N.length - 1) dp [scr ns] .nil=some (.bl true,h')) (hk0:dl.kwd=[]:=by rfl):
  PySem.W.WalkO q loose XP (mO nn t.fa (t.defs.map (fun d=>d.2.he)++[dl.he]) t.dks).says l.row.toRowW d [] (fun f vs=>PySem.call f vs):=by
 refine vq (x:=x) hn hn2 hdf hr fun w mg fa h Y G hmg=>?_
 obtain⟨K,KX,c,ckd⟩:=Y
 obtain⟨fD,hf⟩:=oC (more:=[dl.he]) c
 obtain⟨fd,F⟩:=c.def_ t.defs.length (d:=dl.he) (by rw[List.getElem?_append_right (by simp)];simp)
 have F:FunD K dl.name dl.qual (defArgs dl.st) (defBody dl.st) (defScope dl.st) [] (dl.he.kws K) (He.fAd K dl.at_) fd:=F
 have z:dl.he.kws K=[]:=by
  unfold He.DefD.kws Df.he
  rw[hk0];rfl
 rw[z]at F
 have gl:mg t.lw=some (.ref (He.ga K t.lw)):=He.glo_ok KX G (aH c (by
  unfold Tab.fa
  simp only[List.mem_append]
  exact .inr (.inr (.inr (.inr (.inr (.inr (.inl (List.mem_singleton.mpr rfl)))))))))
 rw[hnm,gl]at hmg
 have ef:He.ga K t.lw=fa:=by cases hmg;rfl
 have ea:He.fAd K dl.at_=fa:=by rw[hat];exact ef
 rw[ea]at F
 have one:dl.ps.length=1:=by rw[hps];rfl
 refine⟨K,fd,be (t.Wd l.prog w K mg) 1 (t.law dl.ir (dl.N.length - 1) dp),KX,fun s u=>?_,fun H a ns hl hO hS=>?_,fun base hb hns=>?_⟩
 ·have:=FunD.bindsA (ps:=dl.ps) F bd s [u] (by rw[one];rfl)
  rw[hps]at this
  exact this
 ·obtain⟨h',e⟩:=hev ns hl
  exact vE hO hS e
 ·obtain⟨ok,fok⟩:=uF (P:=l.prog) KX G c ckd hc hd hf base
  have r:=l5 (t:=⟨dl.name,dl.qual,defArgs dl.st,defBody dl.st,defScope dl.st,dl.N⟩) (ps:=dl.ps) (b:=dl.ir) rfl ok fok F sc ck dp (lm rfl ok fok dp)
  rw[one]at r
  rw[← hps]
  exact r
theorem bp {t:Tab} {d:Df} (h1:d.kws=[]:=by rfl) (h2:d.gir=none:=by rfl) (h3:d.kwd=[]:=by rfl) (h4:d.star=false:=by kernel_rfl)
  (e:L2.FnScope d.N d.ps (L2.defScope d.st):=by exact⟨by kernel_rfl,by kernel_rfl,by kernel_rfl,by decide +kernel,by kernel_rfl,by decide +kernel,by decide +kernel⟩)
  (g:∀ (kV doc pm:Value) (an:Option Addr) (cdv ct:Value) (us:List Value),us.length=d.ps.length→bindArgs (PySem.W.fnOf d.name d.qual (L2.defArgs d.st) (L2.defBody d.st) (L2.defScope d.st) .none kV doc pm an cdv ct) ⟨us,[]⟩=pure (d.ps.zip us):=by
   intro _ _ _ _ _ _ us hl
   first
    | (match us,hl with | [_],_=>rfl)
    | (match us,hl with | [_,_],_=>rfl)
    | (match us,hl with | [_,_,_],_=>rfl)
    | (match us,hl with | [],_=>rfl)
    | (match us,hl with | [_,_,_,_],_=>rfl)
    | (match us,hl with | [_,_,_,_,_],_=>rfl)
    | (match us,hl with | [_,_,_,_,_,_],_=>rfl))
  (c:aW { t.I with rep:=d.rep } d.ir d.N (L2.defScope d.st) (L2.defBody d.st)=true:=by kernel_rfl):DfOk t d:=
 ⟨fun x h=>(by rw[h1]at h;cases h),fun _=>e,fun h=>(by simp[Df.isF,h2]at h),fun h=>absurd h3 h,fun h=>absurd h3 h,fun _ _=>g,fun h=>n4 h4 h,(by rw[h2];exact c)⟩
theorem xA {t:Tab} {d:Df} {b:Gs} (h2:d.gir=some b) (h1:d.kws=[]:=by rfl) (h3:d.kwd=[]:=by rfl) (h4:d.star=false:=by kernel_rfl)
  (e:L2.GScope d.N d.ps (L2.defScope d.st):=by exact⟨by kernel_rfl,by kernel_rfl,by kernel_rfl,by decide +kernel,by kernel_rfl,by decide +kernel,by decide +kernel⟩)
  (g:∀ (kV doc pm:Value) (an:Option Addr) (cdv ct:Value) (us:List Value),us.length=d.ps.length→bindArgs (PySem.W.fnOf d.name d.qual (L2.defArgs d.st) (L2.defBody d.st) (L2.defScope d.st) .none kV doc pm an cdv ct) ⟨us,[]⟩=pure (d.ps.zip us):=by
   intro _ _ _ _ _ _ us hl
   first
    | (match us,hl with | [_],_=>rfl)
    | (match us,hl with | [_,_],_=>rfl)
    | (match us,hl with | [_,_,_],_=>rfl))
  (c:cf t.I b d.N (L2.defScope d.st) (L2.defBody d.st)=true:=by kernel_rfl):DfOk t d:=
 ⟨fun x h=>(by rw[h1]at h;cases h),fun h=>(by rw[h2]at h;cases h),fun _=>e,fun h=>absurd h3 h,fun h=>absurd h3 h,fun _ _=>g,fun h=>n4 h4 h,(by rw[h2];exact c)⟩
end Ev
end
section
namespace K16
open PySem Ev
open Ev (E Es Ks C Cs T Ts S Ss)
theorem zD:DfOk t xK:=bp
theorem A7:DfOk t yf:=bp
theorem d1:DfOk t f1:=bp
theorem d2:DfOk t f2:=bp
theorem d3:DfOk t f3:=bp
theorem d4:DfOk t f4:=bp
theorem d5:DfOk t f5:=bp
theorem d6:DfOk t f6:=bp
theorem d7:DfOk t f7:=bp
theorem d8:DfOk t f8:=bp
theorem d9:DfOk t f9:=bp
theorem zX:DfOk t f10:=bp
theorem AR:DfOk t xT:=bp
theorem zL:DfOk t xj:=bp
theorem zC:DfOk t xX:=bp
theorem zE:DfOk t xJ:=bp
theorem AH:DfOk t xx:=bp
theorem zZ:DfOk t yb:=bp
theorem Ap:DfOk t xm:=bp
theorem AF:DfOk t xU:=bp
theorem Aq:DfOk t ym:=bp
theorem A6:DfOk t yd:=bp
theorem AK:DfOk t wZ:=xA rfl
theorem A5:DfOk t xr:=bp
theorem Ak:DfOk t xV:=bp
theorem A0:DfOk t yi:=bp
theorem AJ:DfOk t xO:=bp
theorem Aa:DfOk t xp:=bp
theorem zP:DfOk t xH:=bp
theorem Ai:DfOk t xD:=bp
theorem AA:DfOk t xW:=bp
theorem yT:DfOk t f200:=bp
theorem yF:DfOk t f201:=bp
theorem yO:DfOk t uT:=bp
theorem yD:aW { t.I with rep:=true } iA dI.N (L2.defScope gJ) (L2.defBody gJ)=true:=by kernel_rfl
theorem zm:L2.FnScope dI.N dI.ps (L2.defScope gJ):=⟨by kernel_rfl,by kernel_rfl,by kernel_rfl,by decide +kernel,by kernel_rfl,by decide +kernel,by decide +kernel⟩
theorem yt (kV doc pm:Value) (an:Option Addr) (cdv ct:Value) (us:List Value) (hl:us.length=dI.ps.length):bindArgs (PySem.W.fnOf dI.name dI.qual (L2.defArgs gJ) (L2.defBody gJ) (L2.defScope gJ) .none kV doc pm an cdv ct) ⟨us,[]⟩=pure (dI.ps.zip us):=match us,hl with | [_],_=>rfl
theorem zU:∀ d∈t.defs,DfOk t d.2:=by
 intro d hd
 simp only[t,List.mem_cons,List.not_mem_nil,or_false]at hd
 rcases hd with rfl | rfl | rfl | rfl | rfl | rfl | rfl | rfl | rfl | rfl | rfl | rfl | rfl | rfl | rfl | rfl | rfl | rfl | rfl | rfl | rfl | rfl | rfl | rfl | rfl | rfl | rfl | rfl | rfl | rfl | rfl | rfl | rfl | rfl
 ·exact zD
 ·exact A7
 ·exact d1
 ·exact d2
 ·exact d3
 ·exact d4
 ·exact d5
 ·exact d6
 ·exact d7
 ·exact d8
 ·exact d9
 ·exact zX
 ·exact AR
 ·exact zL
 ·exact zC
 ·exact zE
 ·exact AH
 ·exact zZ
 ·exact Ap
 ·exact AF
 ·exact Aq
 ·exact A6
 ·exact AK
 ·exact A5
 ·exact Ak
 ·exact A0
 ·exact AJ
 ·exact Aa
 ·exact zP
 ·exact Ai
 ·exact AA
 ·exact yT
 ·exact yF
 ·exact yO
theorem tc:t.clsB=true:=by kernel_rfl
open PySem PySem.W PySem.Calls PyProof.Rows Ev
theorem room:L2.Room 83 callerA:=⟨rfl,by decide,by decide +kernel⟩
theorem head (hev:∀ ns:List Int,ns.length≤63→∃ h',t.law iA (dI.N.length - 1) 80 [scr ns] .nil=some (.bl true,h')):PySem.Challenge.rw_scopetables_k16_classes.Holds:=by
 w_on;o_law
 refine HandSHeadRun.head_any (r:=OpenLaw.row PySem.Challenge.rw_scopetables_k16_classes) (q:=view (OpenLaw.row PySem.Challenge.rw_scopetables_k16_classes).prog [41]) (H:=hk) (ob:=ob) (M:=9000) (loose:=loose) (d:=HandSHeadRun.topDef (OpenLaw.row PySem.Challenge.rw_scopetables_k16_classes).prog 41) (kwd:=[]) ww
  (by kernel_rfl) (fun s=>by kernel_rfl) run (by kernel_rfl) (by kernel_rfl) (by kernel_rfl) (by rfl) (by first | assumption | decide +kernel) (by decide +kernel) ⟨rfl,rfl,rfl,rfl,rfl,by decide +kernel⟩ ?hw ?hc
 case hw=>w_witness2
 case hc=>exact qG (l:=PySem.Challenge.rw_scopetables_k16_classes) (n:=63) (dp:=80) (x:="_law_script") t dI rfl (by rw[sizeLine_eq];decide) (by kernel_rfl) room tc zU rfl rfl (by kernel_rfl) zm yD yt hev
end K16
end
section
namespace Sy
open PySem (Str)
open Ev
theorem uH (P:Prg) (d f:Nat) (vs:List D) (h:Mm):call P (d + 1) f vs h=aL P (call P d) (aj P d).2 f vs h:=rfl
theorem kz {P:Prg} {d f:Nat} {k:Fn} (hf:P.fns f=some k) (vs:List D) (h:Mm):call P (d + 1) f vs h=if vs.length=k.np then (match az P (call P d) (aj P d).2 k.body (vs.map some++aM (k.ns - k.np)) h with
   | some (.nx,_,h')=>some (.non,h')
   | some (.rt r,_,h')=>some (r,h')
   | _=>none) else none:=by
 rw[uH]
 simp only[aL,hf]
 try rfl
theorem xM:Nat.ble 1 1000=true:=rfl
theorem xQ:Nat.ble 0 most=true:=rfl
theorem xL:Nat.ble 1 most=true:=rfl
theorem xF:Nat.ble 2 most=true:=rfl
theorem xy:Nat.ble 3 most=true:=rfl
theorem ya:Nat.ble 4 most=true:=rfl
theorem yh:Nat.ble 5 most=true:=rfl
theorem xZ:Nat.ble 6 most=true:=rfl
theorem xC:Nat.ble 7 most=true:=rfl
abbrev aX:=List Nat
def cnt:List (aX×Nat)→aX→Nat
 | [],_=>0
 | (p,n) :: r,q=>if p=q then n else cnt r q
def pD (p:aX):D:=.tup (p.map fun i:Nat=>.int (i:Int))
def va {α:Type}:List (aX×α)→aX→Option α
 | [],_=>none
 | (p,a) :: r,q=>if p=q then some a else va r q
def kv {α:Type} (enc:α→D) (l:List (aX×α)):List (D×D):=l.map fun x=>(pD x.1,enc x.2)
theorem jL {st:Mm→Bool} {turn:D→Ev.Env→Mm→Option (Fl×Ev.Env×Mm)} {x:D} {r:List D} {env env1:Ev.Env} {h h1:Mm} (hs:st h=true) (e:turn x env h=some (.nx,env1,h1)):aQ st turn (x :: r) env h=aQ st turn r env1 h1:=by
 rw[aQ,hs,cond_true,e]
theorem n8 {st:Mm→Bool} {turn:D→Ev.Env→Mm→Option (Fl×Ev.Env×Mm)} {x:D} {r:List D} {env env1:Ev.Env} {h h1:Mm} (hs:st h=true) (e:turn x env h=some (.ct,env1,h1)):aQ st turn (x :: r) env h=aQ st turn r env1 h1:=by
 rw[aQ,hs,cond_true,e]
theorem lJ {st:Mm→Bool} {turn:D→Ev.Env→Mm→Option (Fl×Ev.Env×Mm)} {env:Ev.Env} {h:Mm} (hs:st h=true):aQ st turn [] env h=some (.nx,env,h):=by
 rw[aQ,hs,cond_true]
open Ev (E Es Ks C Cs T Ts S Ss)
section
variable {P:Prg} {c1 c2:Fs} {env:Ev.Env} {h:Mm}
theorem jD {i:Nat}:af P c1 c2 (.var i) env h=(match av env i with
  | some d=>some (d,h)
  | none=>none):=rfl
theorem wj {i:Int}:af P c1 c2 (.int i) env h=some (.int i,h):=rfl
theorem wr {o:Cm} {a b:E}:af P c1 c2 (.cmp o a b) env h=(match af P c1 c2 a env h with
  | some (x,h1)=>(match af P c1 c2 b env h1 with
   | some (y,h2)=>(match cmpD o x y h2 with
    | some k=>some (.bl k,h2)
    | none=>none)
   | none=>none)
  | none=>none):=rfl
theorem wO {o i:E}:af P c1 c2 (.idx o i) env h=(match af P c1 c2 o env h with
  | some (x,h1)=>(match af P c1 c2 i env h1 with
   | some (y,h2)=>(match br x y h2 with
    | some d=>some (d,h2)
    | none=>none)
   | none=>none)
  | none=>none):=rfl
theorem n6 {m:Md} {f:Nat} {es:Es}:af P c1 c2 (.call m f es) env h=(match aB P c1 c2 es env h with
  | some (vs,h1)=>aU m (c1 f) vs h1
  | none=>none):=rfl
theorem qQ {b:Bt} {z:Bool} {es:Es}:af P c1 c2 (.blt b z es) env h=(match aB P c1 c2 es env h with
  | some (vs,h1)=>cG b z vs h1
  | none=>none):=rfl
theorem wu {g:T} {e:E}:cb P c1 c2 (.asg g e) env h=(match af P c1 c2 e env h with
  | some (d,h1)=>(match asg P c1 c2 g d env h1 with
   | some (env1,h2)=>some (.nx,env1,h2)
   | none=>none)
  | none=>none):=rfl
abbrev mX (g:D→Ev.Env→Mm→Option (Ev.Env×Mm)) (fb:Ev.Env→Mm→Option (Fl×Ev.Env×Mm)):D→Ev.Env→Mm→Option (Fl×Ev.Env×Mm):=fun x env h=>match g x env h with
 | some (env2,h2)=>fb env2 h2
 | none=>none
theorem sg {g:T} {it:It} {b:Ss}:cb P c1 c2 (.for_ g it b) env h=(match cy P c1 c2 it env h with
  | some (xs,w,h1)=>aQ (fun h=>stay h w) (mX (asg P c1 c2 g) (az P c1 c2 b)) xs env h1
  | none=>none):=rfl
end
mutual
inductive Ex | num (i:Int) | nam (x:Str) | cal (f:Ex) (as:Exs) | lam (ns:List Str) (e:Ex) | wal (x:Str) (e:Ex) | lst (e:Ex) (cs:Cl)
inductive Exs | nil | cons (e:Ex) (r:Exs)
inductive Cl | nil | cons (x:Str) (e:Ex) (r:Cl)
end
def we (l:List Str):List D:=l.map .str
structure Mn where
 p:aX
 n:Str
 r:Str
 s:aX
 w:Option Bool
structure Sc where
 bs:List (aX×Str)
 cn:List (aX×Nat)
 ms:List Mn
 tg:List (aX×List Str)
 hl:List aX
def xR:List Str:=["blocks","kinds","inner","mentions","seats","targets","walruses","holes"]
structure HasScan (P:Prg):Prop where
 c:P.cls 1=some ⟨1,xR⟩
 W:200≤P.W
 f1:P.fns 1=some ⟨2,2,B1⟩
 f2:P.fns 2=some ⟨3,3,B2⟩
 f3:P.fns 3=some ⟨3,4,B3⟩
 f4:P.fns 4=some ⟨2,2,B4⟩
 f5:P.fns 5=some ⟨4,4,B5⟩
 f6:P.fns 6=some ⟨3,4,B6⟩
 f7:P.fns 7=some ⟨3,5,B7⟩
 f8:P.fns 8=some ⟨3,4,B8⟩
 f9:P.fns 9=some ⟨4,7,B9⟩
 f10:P.fns 10=some ⟨5,9,B10⟩
def uO:List (Str×D):=[("blocks",.ref 1),("kinds",.ref 2),("inner",.ref 3),("mentions",.ref 4),("seats",.ref 5),("targets",.ref 6),("walruses",.ref 7),("holes",.ref 8)]
def hh (b:List D) (k i:List (D×D)) (m se:List D) (t:List (D×D)) (w ho:List D):Mm:=
 ⟨9,[(8,.lst ho),(7,.lst w),(6,.dic true t),(5,.lst se),(4,.lst m),(3,.dic true i),(2,.dic true k),(1,.lst b),(0,.ins 1 uO)]⟩
section
variable {P:Prg} {c1 c2:Fs} {r:Ev.Env} {b m se w ho:List D} {k i t:List (D×D)}
theorem g0:(hh b k i m se t w ho).get 0=some (.ins 1 uO):=rfl
theorem g1:(hh b k i m se t w ho).get 1=some (.lst b):=rfl
theorem g2:(hh b k i m se t w ho).get 2=some (.dic true k):=rfl
theorem g3:(hh b k i m se t w ho).get 3=some (.dic true i):=rfl
theorem g4:(hh b k i m se t w ho).get 4=some (.lst m):=rfl
theorem g5:(hh b k i m se t w ho).get 5=some (.lst se):=rfl
theorem g6:(hh b k i m se t w ho).get 6=some (.dic true t):=rfl
theorem g7:(hh b k i m se t w ho).get 7=some (.lst w):=rfl
theorem g8:(hh b k i m se t w ho).get 8=some (.lst ho):=rfl
theorem s1 {x}:(hh b k i m se t w ho).set 1 (.lst x)=hh x k i m se t w ho:=rfl
theorem s2 {x}:(hh b k i m se t w ho).set 2 (.dic true x)=hh b x i m se t w ho:=rfl
theorem s3 {x}:(hh b k i m se t w ho).set 3 (.dic true x)=hh b k x m se t w ho:=rfl
theorem s4 {x}:(hh b k i m se t w ho).set 4 (.lst x)=hh b k i x se t w ho:=rfl
theorem s5 {x}:(hh b k i m se t w ho).set 5 (.lst x)=hh b k i m x t w ho:=rfl
theorem s6 {x}:(hh b k i m se t w ho).set 6 (.dic true x)=hh b k i m se x w ho:=rfl
theorem s7 {x}:(hh b k i m se t w ho).set 7 (.lst x)=hh b k i m se t x ho:=rfl
theorem s8 {x}:(hh b k i m se t w ho).set 8 (.lst x)=hh b k i m se t w x:=rfl
theorem fld (H:HasScan P) {f:Str} {d:D} (hf:xR.contains f=true) (hl:aY uO f=some d):af P c1 c2 (.fld (.var 0) f) (some (.ref 0) :: r) (hh b k i m se t w ho)=some (d,hh b k i m se t w ho):=by
 simp only[af,av,aO,g0,H.c,hf,hl,cond_true]
theorem zR (H:HasScan P):af P c1 c2 (.fld (.var 0) "kinds") (some (.ref 0) :: r) (hh b k i m se t w ho)=some (.ref 2,hh b k i m se t w ho):=fld H rfl rfl
theorem qT (H:HasScan P):af P c1 c2 (.fld (.var 0) "seats") (some (.ref 0) :: r) (hh b k i m se t w ho)=some (.ref 5,hh b k i m se t w ho):=fld H rfl rfl
theorem xa (H:HasScan P):af P c1 c2 (.fld (.var 0) "targets") (some (.ref 0) :: r) (hh b k i m se t w ho)=some (.ref 6,hh b k i m se t w ho):=fld H rfl rfl
end
def iD (n:Nat):D:=.int (n:Int)
def bk (x:aX×Str):D:=.tup [pD x.1,.str x.2]
def m3 (m:Mn):D:=.tup [pD m.p,.str m.n,.str m.r]
def sf (ns:List Str):D:=.lst (we ns)
def mB:Nat→List Mn→List D
 | _,[]=>[]
 | n,m :: r=>match m.w with
  | some b=>.tup [.int (n:Int),.bl b] :: mB (n + 1) r
  | none=>mB (n + 1) r
def hP (s:Sc):Mm:=hh (s.bs.map bk) (kv .str s.bs) (kv iD s.cn) (s.ms.map m3) (s.ms.map fun m=>pD m.s) (kv sf s.tg) (mB 0 s.ms) (s.hl.map pD)
def ka:Ss:=.cons (.exp (.meth .sh 1 5 "mention" (.var 0) (.cons (.var 2) (.cons (.var 3) (.cons (.glo "PARAMETER" (.str "parameter")) .nil))))) .nil
theorem qF {k:Nat} {h:Mm} {d:D} (e:aD d=true):frz k h d=some d:=by
 cases k<;>simp[frz,e]
def wD:Option Bool→D
 | none=>.non
 | some b=>.bl b
def m5 (m:Mn):D:=.tup [pD m.p,.str m.n,.str m.r,pD m.s,wD m.w]
def ll (k:List (D×D)) (m:List D) (t c:List (D×D)) (o:List D):Mm:=
 ⟨6,[(5,.dic false [(.str "kinds",.ref 0),(.str "mentions",.ref 1),(.str "targets",.ref 2),(.str "counts",.ref 3),(.str "order",.ref 4)]),(4,.lst o),(3,.dic true c),(2,.dic true t),(1,.lst m),(0,.dic true k)]⟩
def hL (s:Sc):Mm:=ll (kv .str s.bs) (s.ms.map m5) (kv sf s.tg) (kv iD s.cn) (s.bs.map fun x=>pD x.1)
section
variable {m o:List D} {k t c:List (D×D)}
theorem l1:(ll k m t c o).get 1=some (.lst m):=rfl
theorem l2:(ll k m t c o).get 2=some (.dic true t):=rfl
theorem l3:(ll k m t c o).get 3=some (.dic true c):=rfl
theorem l4:(ll k m t c o).get 4=some (.lst o):=rfl
theorem u0 {x}:(ll k m t c o).set 0 (.dic true x)=ll x m t c o:=rfl
theorem u2 {x}:(ll k m t c o).set 2 (.dic true x)=ll k m x c o:=rfl
theorem x0:br (.ref 5) (.str "kinds") (ll k m t c o)=some (.ref 0):=rfl
theorem x1:br (.ref 5) (.str "mentions") (ll k m t c o)=some (.ref 1):=rfl
theorem x2:br (.ref 5) (.str "targets") (ll k m t c o)=some (.ref 2):=rfl
theorem x3:br (.ref 5) (.str "counts") (ll k m t c o)=some (.ref 3):=rfl
theorem x4:br (.ref 5) (.str "order") (ll k m t c o)=some (.ref 4):=rfl
end
section
variable {s:Sc}
theorem y0:br (.ref 5) (.str "kinds") (hL s)=some (.ref 0):=rfl
theorem y1:br (.ref 5) (.str "mentions") (hL s)=some (.ref 1):=rfl
theorem y2:br (.ref 5) (.str "targets") (hL s)=some (.ref 2):=rfl
theorem y3:br (.ref 5) (.str "counts") (hL s)=some (.ref 3):=rfl
theorem y4:br (.ref 5) (.str "order") (hL s)=some (.ref 4):=rfl
end
mutual
def dM:D→Bool
 | .non | .bl _=>true
 | .int i=>Nat.blt i.natAbs (10 ^ 21)
 | .str x=>dH x.cps.toList
 | .tup xs | .lst xs=>jd xs
 | _=>false
def jd:List D→Bool
 | []=>true
 | d :: r=>dM d&&jd r
end
mutual
def lq:D→Nat
 | .str x=>10 * x.length + 2
 | .tup xs | .lst xs=>sj xs + 3
 | _=>25
def sj:List D→Nat
 | []=>0
 | d :: r=>lq d + 2 + sj r
end
mutual
def jN:D→Nat
 | .tup xs | .lst xs=>su xs + 1
 | _=>0
def su:List D→Nat
 | []=>0
 | d :: r=>max (jN d) (su r)
end
theorem kK:∀ {l:List Nat},dH l=true→∀ c∈l,c < 16 ^ 8
 | [],_,c,h=>by cases h
 | a :: r,e,c,h=>by
  simp only[dH,Bool.and_eq_true]at e
  rcases List.mem_cons.mp h with rfl | h
  ·have:c < 1114112:=Nat.le_of_ble_eq_true e.1
   exact Nat.lt_trans this (by decide)
  ·exact kK e.2 c h
theorem ma {n:Nat} (h:n < 10 ^ 21):(toString n).length≤21:=by
 rw[Nat.toString_eq_ofList_toDigits,String.length_ofList]
 exact (Nat.length_toDigits_le_iff (by decide) (by decide)).mpr h
theorem sU {i:Int} (h:i.natAbs < 10 ^ 21):(toString i).length≤22:=by
 cases i with
 | ofNat n=>
  show (toString n).length≤22
  exact Nat.le_succ_of_le (ma h)
 | negSucc n=>
  show ("-"++toString (n + 1)).length≤22
  rw[String.length_append]
  have:=ma (n:=n + 1) h
  have e:("-":String).length=1:=rfl
  omega
theorem uG {n:Nat} (h:n < 10 ^ 21):n.log2 < 1920:=by
 by_cases h0:n=0
 ·subst h0;decide
 ·rw[Nat.log2_lt h0]
  exact Nat.lt_trans h (by decide +kernel)
theorem dw (a b:Str):(a++b).length=a.length + b.length:=PySem.strLen_append a b
theorem fT:∀ (ts:List Str) (k:Nat) (acc:Str),(PySem.textFrom k acc ts).length≤acc.length + (ts.map fun t=>t.length + 2).sum
 | [],k,acc=>by simp[PySem.textFrom]
 | t :: r,k,acc=>by
  have ih:=fT r (k + 1) (acc++(if k > 0 then ", " else "":String)++t)
  have e:(acc++(if k > 0 then ", " else "":String)++t).length≤acc.length + 2 + t.length:=by
   rw[dw,dw]
   split
   ·exact Nat.le_refl _
   ·show acc.length + 0 + t.length≤_;omega
  show (PySem.textFrom (k + 1) (acc++(if k > 0 then ", " else "":String)++t) r).length≤_
  simp only[List.map_cons,List.sum_cons]
  omega
theorem lW:∀ ts:List Str,(Str.join ", " ts).length≤(ts.map fun t=>t.length + 2).sum
 | []=>Nat.le_refl _
 | [x]=>by simp[Str.join]
 | x :: y :: r=>by
  have ih:=lW (y :: r)
  show (x++", "++Str.join ", " (y :: r)).length≤_
  rw[dw,dw]
  have e:((", ":String):Str).length=2:=rfl
  simp only[List.map_cons,List.sum_cons]at ih ⊢
  omega
mutual
theorem lc:∀ d:D,dM d=true→(aw d).showable=true∧(aw d).shown.length≤lq d
 | .non,_=>⟨rfl,by simp only[aw,PySem.PyData.shown];exact (by decide:(("None":String):Str).length≤25)⟩
 | .bl b,_=>⟨rfl,by cases b<;>simp only[aw,PySem.PyData.shown]<;>(first | exact (by decide:(("True":String):Str).length≤25) | exact (by decide:(("False":String):Str).length≤25))⟩
 | .int i,h=>by
  have h':i.natAbs < 10 ^ 21:=Nat.le_of_ble_eq_true h
  refine⟨?_,?_⟩
  ·simp only[aw,PySem.PyData.showable]
   exact decide_eq_true (uG h')
  ·simp only[aw,PySem.PyData.shown]
   have:=sU h'
   have e:((toString i:String):Str).length=(toString i).length:=PySem.ofString_length _
   show ((toString i:String):Str).length≤25
   omega
 | .str x,h=>by
  refine⟨rfl,?_⟩
  simp only[aw,PySem.PyData.shown,lq]
  exact PySem.StrLaws.reprText_len x (kK (by simpa [dM] using h))
 | .tup xs,h=>by
  obtain⟨h1,h2⟩:=gK xs (by simpa [dM] using h)
  refine⟨by simpa only[aw,PySem.PyData.showable] using h1,?_⟩
  simp only[aw,PySem.PyData.shown,lq,PySem.tupleText,dw]
  have:=lW (PySem.PyData.shownAll (ba xs))
  have e1:(("(":String):Str).length=1:=rfl
  have e2:((if (PySem.PyData.shownAll (ba xs)).length == 1 then ",)" else ")":String):Str).length≤2:=by split<;>decide
  omega
 | .lst xs,h=>by
  obtain⟨h1,h2⟩:=gK xs (by simpa [dM] using h)
  refine⟨by simpa only[aw,PySem.PyData.showable] using h1,?_⟩
  simp only[aw,PySem.PyData.shown,lq,PySem.listText,dw]
  have:=fT (PySem.PyData.shownAll (ba xs)) 0 "["
  have e1:(("[":String):Str).length=1:=rfl
  have e2:(("]":String):Str).length=1:=rfl
  omega
theorem gK:∀ xs:List D,jd xs=true→PySem.PyData.showableAll (ba xs)=true∧((PySem.PyData.shownAll (ba xs)).map fun t=>t.length + 2).sum≤sj xs
 | [],_=>⟨rfl,Nat.le_refl _⟩
 | d :: r,h=>by
  simp only[jd,Bool.and_eq_true]at h
  obtain⟨a1,a2⟩:=lc d h.1
  obtain⟨b1,b2⟩:=gK r h.2
  refine⟨by simp only[ba,PySem.PyData.showableAll,a1,b1,Bool.and_self],?_⟩
  simp only[ba,PySem.PyData.shownAll,List.map_cons,List.sum_cons,sj]
  omega
end
mutual
theorem lI:∀ d:D,dM d=true→aD d=true
 | .non,_=>rfl
 | .bl _,_=>rfl
 | .int _,_=>rfl
 | .str _,_=>rfl
 | .tup xs,h=>by simpa [aD] using gI xs (by simpa [dM] using h)
 | .lst xs,h=>by simpa [aD] using gI xs (by simpa [dM] using h)
theorem gI:∀ xs:List D,jd xs=true→bI xs=true
 | [],_=>rfl
 | d :: r,h=>by
  simp only[jd,Bool.and_eq_true]at h
  simp only[bI,lI d h.1,gI r h.2,Bool.and_self]
end
mutual
theorem lH:∀ d:D,dM d=true→bc d=some (jN d)
 | .non,_=>rfl
 | .bl _,_=>rfl
 | .int _,_=>rfl
 | .str x,h=>by
  have h:dH x.cps.toList=true:=by simpa [dM] using h
  simp[bc,jN,h]
 | .tup xs,h=>by simp[bc,jN,gf xs (by simpa [dM] using h)]
 | .lst xs,h=>by simp[bc,jN,gf xs (by simpa [dM] using h)]
theorem gf:∀ xs:List D,jd xs=true→bO xs=some (su xs)
 | [],_=>rfl
 | d :: r,h=>by
  simp only[jd,Bool.and_eq_true]at h
  simp[bO,su,lH d h.1,gf r h.2]
end
theorem vQ {d:D} {h:Mm} (o:dM d=true) (p:jN d≤60):dh h d=some d:=by
 simp only[dh,qF (lI d o),lH d o,Nat.ble_eq_true_of_le p,cond_true]
theorem i5 {d:D} {h:Mm} {xs:List D} (hd:d = .tup xs∨d = .lst xs) (o:dM d=true) (p:jN d≤60) (w:lq d≤most):cG .repr true [d] h=some (.str (aw d).shown,h):=by
 obtain⟨h1,h2⟩:=lc d o
 have h3:=Nat.ble_eq_true_of_le (Nat.le_trans h2 w)
 rcases hd with rfl | rfl<;>simp only[cG,vQ o p,h1,h3,Bool.and_self,cond_true]
def lj (x:Str):Prop:=dH x.cps.toList=true∧x.length≤9
theorem bp:lj "parameter":=by unfold lj;decide
theorem xA:lj "global":=by unfold lj;decide
theorem i7:lj "nonlocal":=by unfold lj;decide
def fD (s:Sc):D:=.dic false [(.str "kinds",.dic true (kv .str s.bs)),(.str "mentions",.lst (s.ms.map m5)),(.str "targets",.dic true (kv sf s.tg)),(.str "counts",.dic true (kv iD s.cn)),(.str "order",.lst (s.bs.map fun x=>pD x.1))]
theorem iQ:∀ (m:List (Nat×O)) (n:Nat) (o:O) (k:Nat),lk (jm m n o) k=if k=n then (lk m n).map fun _=>o else lk m k
 | [],n,o,k=>by simp[jm,lk]
 | (j,u) :: r,n,o,k=>by
  unfold jm
  by_cases h:j=n
  ·rw[if_pos h]
   subst h
   by_cases hk:k=j
   ·subst hk;simp[lk]
   ·simp[lk,hk,Ne.symm hk]
  ·rw[if_neg h]
   by_cases hk:k=n
   ·subst hk
    have ih:=iQ r k o k
    simp only[if_pos]at ih
    simp[lk,h,ih]
   ·have ih:=iQ r n o k
    rw[if_neg hk]at ih
    by_cases hj:j=k
    ·simp[lk,hj,hk]
    ·simp[lk,hj,hk,ih]
theorem vN {h:Mm} {n k:Nat} {o:O}:(h.set n o).get k=if k=n then (h.get n).map fun _=>o else h.get k:=iQ _ _ _ _
theorem zi {h:Mm} {k:Nat} {o:O}:(h.new o).2.get k=if h.nx=k then some o else h.get k:=rfl
theorem dL:∀ (n:Nat) (lo c:Int),(bq n lo c).length=n
 | 0,_,_=>rfl
 | n + 1,lo,c=>by simp[bq,dL n]
structure HasBag (P:Prg):Prop where
 f200:P.fns 200=some ⟨2,6,B200⟩
 f201:P.fns 201=some ⟨2,3,B201⟩
theorem e8 {h:Mm} {n:Nat} {o u:O} (e:h.get n=some u):(h.set n o).get n=some o:=by rw[vN,if_pos rfl,e];rfl
def sd (n:Nat) (h:Mm):Prop:=n < h.nx∧∃ L M:Int,h.get n=some (.lst [.int L,.int M])∧0≤L∧0≤M
structure Keep (n:Nat) (h h':Mm):Prop where
 nx:h.nx≤h'.nx
 eq:∀ m,m < h.nx→m≠n→h'.get m=h.get m
theorem Keep.set {n h o}:Keep n h (h.set n o):=⟨Nat.le_refl _,fun m _ hn=>by rw[vN,if_neg hn]⟩
section
variable {P:Prg} (H:HasBag P)
include H
theorem ua (d:Nat) (h:Mm) (n:Nat) (L M s:Int) (hg:h.get n=some (.lst [.int L,.int M])) (hL:0≤L) (hM:0≤M) (hs:0 < s) (hs2:s < 1073741824):
  ∃ r L' M':Int,call P (d + 1) 201 [.ref n,.int s] h=some (.int r,h.set n (.lst [.int L',.int M']))∧0≤r∧r < s∧0≤L'∧0≤M':=by
 by_cases hp:0 < L
 ·refine⟨L % s,L / s,M,?_,Int.emod_nonneg _ (by omega),Int.emod_lt_of_pos _ hs,Int.ediv_nonneg hL (by omega),hM⟩
  rw[kz H.f201]
  simp[B201,az,cb,cv,af,av,ay,br,dictOf,bN,Ev.listOf,hg,jc,ixN,cW,cmpD,cu,hp,cV,hs,hs2,asg,fu,aM,List.set]
 ·have h2:(h.set n (.lst [.int L,.int (M * 48271 % 2147483647)])).get n=some (.lst [.int L,.int (M * 48271 % 2147483647)]):=e8 hg
  refine⟨M * 48271 % 2147483647 * 69621 % 2147483629 / 16 ^ 2 % s,L,M * 48271 % 2147483647,?_,Int.emod_nonneg _ (by omega),Int.emod_lt_of_pos _ hs,hL,Int.emod_nonneg _ (by decide)⟩
  rw[kz H.f201]
  simp[B201,az,cb,cv,af,av,ay,br,dictOf,bN,Ev.listOf,hg,h2,jc,ixN,cW,cmpD,cu,hp,cV,hs,hs2,asg,fu,aM,List.set,cj]
theorem j9 (d:Nat) {h:Mm} {n:Nat} (b:sd n h) {s:Int} (hs:0 < s) (hs2:s < 1073741824):
  ∃ (r:Int) (h':Mm),call P (d + 1) 201 [.ref n,.int s] h=some (.int r,h')∧0≤r∧r < s∧sd n h'∧Keep n h h':=by
 obtain⟨h1,L,M,e,hL,hM⟩:=b
 obtain⟨r,L',M',e1,q1,q2,q3,q4⟩:=ua H d h n L M s e hL hM hs hs2
 exact⟨r,_,e1,q1,q2,⟨h1,L',M',e8 e,q3,q4⟩,.set⟩
end
theorem rD {i:Int} (h:eA i=true):iG [.int i]=some (bq i.toNat 0 1):=by
 have e:iG [.int i]=(bif eA i then some (bq i.toNat 0 1) else none):=rfl
 rw[e,h];rfl
theorem eI {P:Prg} {c1 c2:Fs} {es:Es} {env:Ev.Env} {h h1:Mm} {vs xs:List D} (he:aB P c1 c2 es env h=some (vs,h1)) (hx:iG vs=some xs):cy P c1 c2 (.rng es) env h=some (xs,none,h1):=by
 simp only[cy,he,hx]
theorem xt {k:Nat} (hk:k < 1000):eA (k:Int)=true:=by
 have h1:decide (-(2 ^ 62)≤(k:Int))=true:=decide_eq_true (Int.le_trans (by decide) (Int.natCast_nonneg k))
 have h2:decide ((k:Int) < 2 ^ 62)=true:=decide_eq_true (Int.lt_of_lt_of_le (Int.ofNat_lt.mpr hk) (by decide))
 unfold eA
 rw[h1,h2];rfl
theorem rK {P:Prg} {c1 c2:Fs} {es:Es} {env:Ev.Env} {h h1:Mm} {i:Int} (he:aB P c1 c2 es env h=some ([.int i],h1)) (hi:eA i=true):cy P c1 c2 (.rng es) env h=some (bq i.toNat 0 1,none,h1):=eI he (rD hi)
def nm (i:Fin 4):Str:=⟨#[97 + i.1]⟩
def aZ (ns:List Int):D:=.frl (ns.map .int)
theorem xl:(2:Int) ^ 64=18446744073709551616:=rfl
theorem oa {i:Int} (h1:-18446744073709551616 < i) (h2:i < 18446744073709551616):cj i=true:=by
 unfold cj
 rw[Bool.and_eq_true]
 exact⟨decide_eq_true (by rw[xl];exact h1),decide_eq_true (by rw[xl];exact h2)⟩
theorem dt {x p:Int} (h0:0 < p) (h1:p < 18446744073709551616):cj (x % p)=true:=by
 have a:=Int.emod_nonneg x (by omega:p≠0)
 have b:=Int.emod_lt_of_pos x h0
 exact oa (by omega) (by omega)
theorem lB:∀ (ns:List Int) (k:Nat),cW (ns.map D.int) k=(ns[k]?).map D.int
 | [],k=>by simp[cW]
 | n :: r,0=>rfl
 | n :: r,k + 1=>by simp[cW,lB r k]
def jB:E:=.ite (.of (.cmp .lt (.var 1) (.blt .len true (.cons (.var 0) .nil)))) (.idx (.var 0) (.var 1)) (.int 0)
theorem vy {P:Prg} (ns:List Int) (k:Nat) {c1 c2:Fs} {h:Mm} {r:Ev.Env}:∃ c:Int,af P c1 c2 jB (some (aZ ns) :: some (.int k) :: r) h=some (.int c,h):=by
 by_cases hk:k < ns.length
 ·refine⟨ns[k],?_⟩
  have h1:ixN ns.length (k:Int)=some k:=by unfold ixN;rw[if_pos (by omega),if_pos (by omega)];rfl
  simp[az,cb,cv,af,aB,j7,cy,bC,eE,eR,gG,asg,bU,av,ay,aM,jB,aZ,cG,bN,cmpD,cu,br,dictOf,jc,h1,lB,hk]
 ·refine⟨0,?_⟩
  simp[az,cb,cv,af,aB,j7,cy,bC,eE,eR,gG,asg,bU,av,ay,aM,jB,aZ,cG,bN,cmpD,cu,hk]
theorem j1:cj 40961=true:=rfl
theorem j2:cj 3=true:=rfl
theorem j3:cj 10=true:=rfl
def pr:Nat→Int
 | 0=>2147483647
 | 1=>2147483629
 | 2=>2147483587
 | 3=>2147483579
 | 4=>2147483563
 | 5=>2147483549
 | _=>2147483543
def ab (c:Int):Int:=if c < 0 then -c else c
def mx (c:Int) (k:Nat):Int:=(c % 2305843009213693951 + 40961 * k + 19) ^ 3 % pr k
theorem vk:∀ k,0 < pr k:=fun k=>by
 unfold pr
 split<;>decide
theorem nF (ns:List Int):bI (ns.map D.int)=true:=by
 induction ns with
 | nil=>rfl
 | cons n r ih=>simp[bI,aD,ih]
section
variable {P:Prg} (H:HasBag P)
include H
theorem t6 (d:Nat) (ns:List Int) (k:Nat) (hk:k < 6):∃ c:Int,call P (d + 1) 200 [aZ ns,.int k] .nil=some (.ref 0,(Mm.nil.new (.lst [.int (if 1000000000000000000≤ab c then ab c else 0),.int (mx c k * (mx c k / 5 + 3 * k + 11) % (if k=5 then 2147483647 else pr (k + 2)) + 1)])).2):=by
 obtain⟨c,hc⟩:=vy (P:=P) ns k (c1:=call P d) (c2:=(aj P d).2) (h:=.nil) (r:=[some (.tup [.int 2147483647,.int 2147483629,.int 2147483587,.int 2147483579,.int 2147483563,.int 2147483549,.int 2147483543]),none,none,none])
 refine⟨c,?_⟩
 rw[kz H.f200]
 simp only[B200]
 unfold jB at hc
 generalize (E.ite (.of (.cmp .lt (.var 1) (.blt .len true (.cons (.var 0) .nil)))) (.idx (.var 0) (.var 1)) (.int 0))=X at hc ⊢
 have hk':k=0∨k=1∨k=2∨k=3∨k=4∨k=5:=by omega
 have q0:=Int.emod_nonneg c (by decide:(2305843009213693951:Int)≠0)
 have q1:=Int.emod_lt_of_pos c (by decide:(0:Int) < 2305843009213693951)
 have h64:cj (c % 2305843009213693951 + 40961 * k + 19)=true:=oa (by omega) (by omega)
 have m1:∀ x:Int,cj (x % 2147483647)=true:=fun x=>dt (by decide) (by decide)
 have m2:∀ x:Int,cj (x % 2147483629)=true:=fun x=>dt (by decide) (by decide)
 have m3:∀ x:Int,cj (x % 2147483587)=true:=fun x=>dt (by decide) (by decide)
 have m4:∀ x:Int,cj (x % 2147483579)=true:=fun x=>dt (by decide) (by decide)
 have m5:∀ x:Int,cj (x % 2147483563)=true:=fun x=>dt (by decide) (by decide)
 have m6:∀ x:Int,cj (x % 2147483549)=true:=fun x=>dt (by decide) (by decide)
 by_cases hA:(1000000000000000000:Int)≤(if c < 0 then -c else c)
 ·rcases hk' with rfl | rfl | rfl | rfl | rfl | rfl <;>
  (simp at h64 hc;simp[xM,xQ,xL,xF,xy,ya,yh,xZ,xC,jX,iW,fw,bB,az,cb,cv,af,aB,j7,cy,bC,eE,eR,gG,asg,bU,av,ay,aM,br,dictOf,bN,Ev.listOf,jc,ixN,cW,cmpD,cu,cV,List.set,aU,hc,cG,j1,j2,j3,h64,m1,m2,m3,m4,m5,m6,hA,mx,pr,ab,bj];try rfl)
 ·rcases hk' with rfl | rfl | rfl | rfl | rfl | rfl <;>
  (simp at h64 hc;simp[xM,xQ,xL,xF,xy,ya,yh,xZ,xC,jX,iW,fw,bB,az,cb,cv,af,aB,j7,cy,bC,eE,eR,gG,asg,bU,av,ay,aM,br,dictOf,bN,Ev.listOf,jc,ixN,cW,cmpD,cu,cV,List.set,aU,hc,cG,j1,j2,j3,h64,m1,m2,m3,m4,m5,m6,hA,mx,pr,ab,bj];try rfl)
theorem wg (d:Nat) (ns:List Int) (k:Nat) (hk:k < 6) (h:Mm):∃ L M:Int,aU .liv (call P (d + 1) 200) [aZ ns,.int k] h=some (h.new (.lst [.int L,.int M]))∧0≤L∧0≤M:=by
 obtain⟨c,e⟩:=t6 H d ns k hk
 have hp:bI [aZ ns,D.int k]=true:=by simp[bI,aD,aZ,nF]
 have q:(0:Int) < (if k=5 then 2147483647 else pr (k + 2)):=by
  split
  ·decide
  ·exact vk _
 have q2:=Int.emod_nonneg (mx c k * (mx c k / 5 + 3 * k + 11)) (by omega:(if k=5 then (2147483647:Int) else pr (k + 2))≠0)
 refine⟨if 1000000000000000000≤ab c then ab c else 0,mx c k * (mx c k / 5 + 3 * k + 11) % (if k=5 then 2147483647 else pr (k + 2)) + 1,?_,?_,by omega⟩
 ·simp only[aU,hp,cond_true,e]
  rfl
 ·split
  ·omega
  ·decide
end
theorem lS {st:Mm→Bool} {turn:D→Ev.Env→Mm→Option (Fl×Ev.Env×Mm)} {I:Ev.Env→Mm→Prop}:∀ (xs:List D),(∀ h,st h=true)→(∀ x∈xs,∀ env h,I env h→∃ env' h',turn x env h=some (.nx,env',h')∧I env' h') →
  ∀ env h,I env h→∃ env' h',aQ st turn xs env h=some (.nx,env',h')∧I env' h'
 | [],hs,ht,env,h,i=>⟨env,h,lJ (hs h),i⟩
 | x :: r,hs,ht,env,h,i=>by
  obtain⟨e1,h1,q1,i1⟩:=ht x (List.mem_cons_self ..) env h i
  obtain⟨e2,h2,q2,i2⟩:=lS r hs (fun y hy=>ht y (List.mem_cons_of_mem _ hy)) e1 h1 i1
  exact⟨e2,h2,by rw[jL (hs h) q1];exact q2,i2⟩
theorem kB:∀ (n:Nat) (lo:Int) (x:D),x∈bq n lo 1→∃ i:Nat,i < n∧x = .int (lo + i)
 | 0,_,_,h=>by simp[bq]at h
 | n + 1,lo,x,h=>by
  simp only[bq,List.mem_cons]at h
  rcases h with rfl | h
  ·exact⟨0,Nat.succ_pos n,by simp⟩
  ·obtain⟨i,h1,h2⟩:=kB n (lo + 1) x h
   exact⟨i + 1,Nat.succ_lt_succ h1,by rw[h2];congr 1;omega⟩
structure HasNm (P:Prg):Prop extends HasBag P where
 n208:P.fns 208=some ⟨1,1,yx⟩
structure HasCe (P:Prg):Prop extends HasNm P where
 f213:P.fns 213=some ⟨3,10,yz⟩
section
variable {P:Prg}
variable (H:HasCe P)
include H
abbrev cenv (n k:Nat) (a w:D) (o4 o5 o6:Option D) (i:Int) (m0:Nat) (o9:Option D):Ev.Env:=[some (.ref n),some (.int ((k:Int) + 1)),some a,some w,o4,o5,o6,some (.int i),some (.ref m0),o9]
end
def wn (r:Str):Bool:=decide (r = "write")||decide (r = "delete")||decide (r = "parameter")
def jC (r:Str):Bool:=decide (r = "global")||decide (r = "nonlocal")
def zT (ms:List Mn) (p:aX) (n:Str):Bool:=ms.any fun m=>decide (m.p=p)&&decide (m.n=n)&&decide (m.r = "global")
def yC (ms:List Mn) (p:aX) (n:Str):Bool:=ms.any fun m=>decide (m.p=p)&&decide (m.n=n)&&jC m.r
def zr (ms:List Mn) (p:aX) (n:Str):Bool:=ms.any fun m=>decide (m.s=p)&&decide (m.n=n)&&wn m.r
def yN (ms:List Mn) (p:aX) (n:Str):Bool:=zr ms p n&&!yC ms p n
def so (s:Sc) (p:aX):Str:=(va s.bs p).getD "module"
def p7 (s:Sc) (n:Str) (p:aX):Nat→aX
 | 0=>[]
 | k + 1=>if so s (p.take (k + 1)) = "class" then p7 s n p k else
  if zT s.ms (p.take (k + 1)) n=true then [] else if yN s.ms (p.take (k + 1)) n=true then p.take (k + 1) else p7 s n p k
def outer (s:Sc) (p:aX) (n:Str):aX:=p7 s n p (p.length - 1)
def sA (ms:List Mn) (q:aX) (n:Str):List Str:=(ms.filter fun x=>decide (x.s=q)&&decide (x.n=n)).map Mn.r
def yn (s:Sc) (p:aX) (n r:Str) (seen:List Str):Str:=
 if r = "nonlocal"∧p=[] then "module nonlocal" else
 if ("parameter":Str)∈seen then "declared parameter" else
 if (seen.filter fun x=>jC x&&decide (x≠r))≠[] then "two declarations" else
 if (seen.filter fun x=>!jC x)≠[] then "declared late" else
 if r = "nonlocal"∧outer s p n=[] then "no binding" else ""
def u5 (s:Sc) (n:Str) (q:aX):Nat→aX→Bool
 | 0,_=>false
 | k + 1,p=>if p=q then false else if n∈(va s.tg p).getD [] then true else u5 s n q k p.dropLast
def yG (s:Sc) (m:Mn) (b:Bool):Str:=
 if b=true then "walrus in source" else
 if m.p≠m.s∧so s m.s = "class" then "walrus in class" else
 if u5 s m.n m.s m.p.length m.p=true then "walrus of target" else ""
def xz (s:Sc) (m:Mn) (seen:List Str):Str:=
 if m.r = "parameter"∧("parameter":Str)∈seen then "parameter twice" else
 if jC m.r=true then yn s m.p m.n m.r seen else
 match m.w with
 | some b=>yG s m b
 | none=>""
def vI (s:Sc):List Mn→List Mn→Option (Nat×Str)
 | _,[]=>none
 | done,m :: r=>if xz s m (sA done m.s m.n)≠"" then some (done.length,xz s m (sA done m.s m.n)) else vI s (done++[m]) r
def first (s:Sc):Option (Nat×Str):=vI s [] s.ms
def Au (s:Sc):List (Str×D):=[("blocks",.lst (s.bs.map bk)),("kinds",.dic true (kv .str s.bs)),("inner",.dic true (kv iD s.cn)),("mentions",.lst (s.ms.map m3)),("seats",.lst (s.ms.map fun m=>pD m.s)),("targets",.dic true (kv sf s.tg)),("walruses",.lst (mB 0 s.ms)),("holes",.lst (s.hl.map pD))]
def zQ (s:Sc):D:=.ins 1 (Au s)
abbrev PN:=aX×Str
def yw (k:PN):D:=.tup [pD k.1,.str k.2]
def oM {α:Type}:List (PN×α)→PN→Option α
 | [],_=>none
 | (k,a) :: r,q=>if k=q then some a else oM r q
def Aj {α:Type} (enc:α→D) (l:List (PN×α)):List (D×D):=l.map fun x=>(yw x.1,enc x.2)
def ht (s:Sc) (K L:List (D×D)):Mm:=⟨3,[(2,.dic true L),(1,.dic true K),(0,.ins 3 [("scan",zQ s),("declared",.ref 1),("written",.ref 2)])]⟩
theorem ye {s:Sc} {K L}:(ht s K L).get 1=some (.dic true K):=rfl
theorem xP {s:Sc} {K L}:(ht s K L).get 2=some (.dic true L):=rfl
def sB (x:Str):Prop:=dH x.cps.toList=true
structure dg (h:Mm) (done:List Mn) (K:List (PN×Nat)):Prop where
 g:h.get 0=some (.dic true (Aj D.ref K))
 len:K.length≤done.length
 some_:∀ q n r,oM K (q,n)=some r→0 < r∧r < h.nx∧h.get r=some (.lst ((sA done q n).map D.str))
 none_:∀ q n,oM K (q,n)=none→sA done q n=[]
 inj:∀ k k' r,oM K k=some r→oM K k' = some r→k=k'
 pos:0 < h.nx
def dn (p:aX):Nat→List aX
 | 0=>[]
 | k + 1=>p.take (k + 1) :: dn p k
section
variable {P:Prg} {c1 c2:Fs} {env env1:Ev.Env} {h h1:Mm}
theorem gP {s:S} {r:Ss} (e:cb P c1 c2 s env h=some (.nx,env1,h1)):az P c1 c2 (.cons s r) env h=az P c1 c2 r env1 h1:=by rw[az,e]
theorem qU {i:Nat} {a:E} {d:D} (e:af P c1 c2 a env h=some (d,h1)):cb P c1 c2 (.asg (.var i) a) env h=some (.nx,ay env i d,h1):=by rw[wu,e];rfl
end
structure HasCn (P:Prg):Prop extends HasCe P where
 f214:P.fns 214=some ⟨4,7,yV⟩
 f215:P.fns 215=some ⟨5,12,zp⟩
 f216:P.fns 216=some ⟨4,8,zv⟩
section
variable {P:Prg} (H:HasCn P)
include H
abbrev u1 (n:Nat) (K:Str) (ns U:List Str) (m0:Nat) (o5 o6:Option D):Ev.Env:=[some (.ref n),some (.str K),some (.tup (we ns)),some (.lst (we U)),some (.ref m0),o5,o6]
end
section
variable {P:Prg}
variable (H:HasCn P)
include H
abbrev vb:E:=.comp true [11] (.tup (.cons (.str "set") (.cons (.var 11) (.cons (.call .sh 201 (.cons (.var 0) (.cons (.int 4) .nil))) .nil)))) (.var 11) (.of (.var 9)) .nil
end
theorem bV:∀ (env:Ev.Env) (i j:Nat) (d:D),i < env.length→av (ay env i d) j=if i=j then some d else av env j
 | [],i,j,d,h=>by simp at h
 | x :: r,0,0,d,_=>rfl
 | x :: r,0,j + 1,d,_=>by simp[ay,av]
 | x :: r,i + 1,0,d,_=>by simp[ay,av]
 | x :: r,i + 1,j + 1,d,h=>by
  simp only[ay,av,bV r i j d (by simpa using h)]
  simp
theorem cD:∀ (env:Ev.Env) (i:Nat) (d:D),(ay env i d).length=env.length
 | [],_,_=>rfl
 | _ :: _,0,_=>rfl
 | _ :: r,i + 1,d=>by simp[ay,cD r i d]
structure Ou (L:Nat) (ns:List Int) (env:Ev.Env):Prop where
 len:env.length=L
 scr:av env 0=some (aZ ns)
structure In1 (L ib:Nat) (ns:List Int) (n:Nat) (env:Ev.Env) (h:Mm):Prop extends Ou L ns env where
 bg:av env ib=some (.ref n)
 b:sd n h
section
variable {P:Prg} (HB:HasBag P)
include HB
omit HB in
theorem vF (A B:Nat) (hAB:A≤1000) (hB:B < 1000) (hA:A < 1000) (ns:List Int) (c1 c2:Fs) (env:Ev.Env) (h:Mm) (hs:av env 0=some (aZ ns)):
  cy P c1 c2 (.rng (.cons (.blt .max2 true (.cons (.int A) (.cons (.blt .min2 true (.cons (.int B) (.cons (.blt .len true (.cons (.var 0) .nil)) .nil))) .nil))) .nil)) env h=some (bq (max A (min B ns.length)) 0 1,none,h):=by
 have hm:(if (A:Int) < (if (ns.length:Int) < B then (ns.length:Int) else B) then (if (ns.length:Int) < B then (ns.length:Int) else B) else A)=((max A (min B ns.length):Nat):Int):=by split<;>split<;>omega
 have he:aB P c1 c2 (.cons (.blt .max2 true (.cons (.int A) (.cons (.blt .min2 true (.cons (.int B) (.cons (.blt .len true (.cons (.var 0) .nil)) .nil))) .nil))) .nil) env h=some ([.int ((max A (min B ns.length):Nat):Int)],h):=by
  rw[← hm]
  have l1:af P c1 c2 (.blt .len true (.cons (.var 0) .nil)) env h=some (.int (ns.length:Int),h):=by
   rw[qQ]
   simp only[aB,jD,hs,cG,aZ,bN,List.length_map]
  simp only[qQ,aB,wj,jD,hs,cG,aZ,bN,List.length_map]
 rw[rK he (xt (by omega)),Int.toNat_natCast]
end
theorem jQ {st:Mm→Bool} {turn:D→Ev.Env→Mm→Option (Fl×Ev.Env×Mm)} {I:Ev.Env→Mm→Prop}:∀ (xs:List D),(∀ h,st h=true)→(∀ x∈xs,∀ env h,I env h→∃ fl env' h',turn x env h=some (fl,env',h')∧(fl = .nx∨fl = .ct)∧I env' h') →
  ∀ env h,I env h→∃ env' h',aQ st turn xs env h=some (.nx,env',h')∧I env' h'
 | [],hs,ht,env,h,i=>⟨env,h,lJ (hs h),i⟩
 | x :: r,hs,ht,env,h,i=>by
  obtain⟨fl,e1,h1,q1,c1,i1⟩:=ht x (List.mem_cons_self ..) env h i
  obtain⟨e2,h2,q2,i2⟩:=jQ r hs (fun y hy=>ht y (List.mem_cons_of_mem _ hy)) e1 h1 i1
  rcases c1 with rfl | rfl
  ·exact⟨e2,h2,by rw[jL (hs h) q1];exact q2,i2⟩
  ·exact⟨e2,h2,by rw[n8 (hs h) q1];exact q2,i2⟩
section
variable {P:Prg} (HB:HasBag P)
include HB
theorem vV (Q:Ev.Env→Prop) (dp L ik ib it N:Nat) (hk:ik < L) (hb:ib < L) (hi:it < L) (k0:ik≠0) (b0:ib≠0) (i0:it≠0) (kb:ik≠ib) (bi:ib≠it) (hN:N < 1000) (tB:Ss) (ns:List Int) (hQ:∀ (env:Ev.Env) (j:Nat) (d:D),(j=ik∨j=ib∨j=it)→env.length=L→Q env→Q (ay env j d))
  (ht:∀ (n:Nat) (env:Ev.Env) (h:Mm),In1 L ib ns n env h→Q env→∃ fl env' h',az P (call P (dp + 1)) (aj P (dp + 1)).2 tB env h=some (fl,env',h')∧(fl = .nx∨fl = .ct)∧In1 L ib ns n env' h'∧Q env')
  (ot:Ss) (hot:ot = .cons (.asg (.var ib) (.call .liv 200 (.cons (.var 0) (.cons (.var ik) .nil)))) (.cons (.for_ (.var it) (.rng (.cons (.int N) .nil)) tB) .nil))
  (M:Nat) (hM:M≤6):∀ (env:Ev.Env) (h:Mm),Ou L ns env→Q env →
  ∃ env' h',aQ (fun h=>stay h none) (mX (asg P (call P (dp + 1)) (aj P (dp + 1)).2 (.var ik)) (az P (call P (dp + 1)) (aj P (dp + 1)).2 ot)) (bq M 0 1) env h=some (.nx,env',h')∧Ou L ns env'∧Q env':=by
 intro env h o q0
 refine lS (I:=fun env h=>Ou L ns env∧Q env) (bq M 0 1) (fun _=>rfl) (fun x hx env h oq=>?_) env h ⟨o,q0⟩
 obtain⟨o,q0⟩:=oq
 obtain⟨k,hk6,rfl⟩:=kB _ _ _ hx
 have z:(0:Int) + (k:Int)=(k:Int):=by omega
 rw[z]
 obtain⟨A,B,e,hA,hB⟩:=wg HB dp ns k (by omega) h
 have b:sd h.nx (h.new (.lst [.int A,.int B])).2:=⟨Nat.lt_succ_self _,A,B,by rw[zi,if_pos rfl],hA,hB⟩
 have l1:(ay env ik (.int (k:Int))).length=L:=by rw[cD,o.len]
 have g0:av (ay env ik (.int (k:Int))) 0=some (aZ ns):=by rw[bV _ _ _ _ (by rw[o.len];exact hk),if_neg k0];exact o.scr
 have g1:av (ay env ik (.int (k:Int))) ik=some (.int (k:Int)):=by rw[bV _ _ _ _ (by rw[o.len];exact hk),if_pos rfl]
 have s1:cb P (call P (dp + 1)) (aj P (dp + 1)).2 (.asg (.var ib) (.call .liv 200 (.cons (.var 0) (.cons (.var ik) .nil)))) (ay env ik (.int (k:Int))) h=some (.nx,ay (ay env ik (.int (k:Int))) ib (.ref h.nx),(h.new (.lst [.int A,.int B])).2):=by
  refine qU ?_
  simp only[n6,aB,jD,g0,g1]
  exact e
 have i1:In1 L ib ns h.nx (ay (ay env ik (.int (k:Int))) ib (.ref h.nx)) (h.new (.lst [.int A,.int B])).2:=⟨⟨by rw[cD,l1],by rw[bV _ _ _ _ (by rw[l1];exact hb),if_neg b0];exact g0⟩,by rw[bV _ _ _ _ (by rw[l1];exact hb),if_pos rfl],b⟩
 obtain⟨env',h',q,j⟩:=jQ (st:=fun h=>stay h none) (turn:=mX (asg P (call P (dp + 1)) (aj P (dp + 1)).2 (.var it)) (az P (call P (dp + 1)) (aj P (dp + 1)).2 tB)) (I:=fun env h'=>In1 L ib ns h.nx env h'∧Q env) (bq N 0 1) (fun _=>rfl) (fun x _ env h2 iq=>by
  obtain⟨i,qi⟩:=iq
  have i2:In1 L ib ns h.nx (ay env it x) h2:=⟨⟨by rw[cD,i.len],by rw[bV _ _ _ _ (by rw[i.len];exact hi),if_neg i0];exact i.scr⟩,by rw[bV _ _ _ _ (by rw[i.len];exact hi),if_neg (Ne.symm bi)];exact i.bg,i.b⟩
  obtain⟨fl,e',h',a1,a2,a3,a4⟩:=ht h.nx _ h2 i2 (hQ _ _ _ (.inr (.inr rfl)) i.len qi)
  exact⟨fl,e',h',a1,a2,a3,a4⟩) _ _ ⟨i1,hQ _ _ _ (.inr (.inl rfl)) l1 (hQ _ _ _ (.inl rfl) o.len q0)⟩
 refine⟨env',h',?_,j.1.toOu,j.2⟩
 subst hot
 show az P (call P (dp + 1)) (aj P (dp + 1)).2 _ (ay env ik (.int (k:Int))) h=_
 refine (gP s1).trans ((gP ?_).trans rfl)
 have he:aB P (call P (dp + 1)) (aj P (dp + 1)).2 (.cons (.int N) .nil) (ay (ay env ik (.int (k:Int))) ib (.ref h.nx)) (h.new (.lst [.int A,.int B])).2=some ([.int N],(h.new (.lst [.int A,.int B])).2):=rfl
 rw[sg,rK he (xt hN)]
 exact q
end
end Sy
end
section
namespace K16
open PySem (Str)
open Ev Sy
open Ev (E Es Ks C Cs T Ts S Ss)
def tR:Ss:=(.cons (.asg (.var 5) (.ite (.of (.var 13)) (.tup (.cons (.int 0) (.cons (.int 0) .nil))) (.ite (.of (.var 12)) (.tup (.cons (.int 0) .nil)) (.tup .nil))))
  (.cons (.iff (.and (.cons (.of (.cmp .eq (.var 4) (.str "nonlocal"))) (.cons (.of (.cmp .eq (.var 5) (.tup .nil))) .nil))) (.cons .cnt
  .nil) .nil)
  (.cons (.asg (.var 6) (.call .sh 348 (.cons (.var 2) (.cons (.var 12) (.cons (.var 13) (.cons (.var 4) .nil))))))
  (.cons (.asg (.var 7) (.tup (.cons (.int 0) (.cons (.int 0) (.cons (.int 0) .nil)))))
  (.cons (.asg (.var 8) (.idx (.dic true false (.cons (.str "bind") (.var 7) (.cons (.str "global") (.tup .nil) (.cons (.str "nonlocal") (.var 5) (.cons (.str "") (.var 5) .nil))))) (.var 4)))
  (.cons (.asg (.var 9) (.idx (.dic true false (.cons (.str "bind") (.str "local") (.cons (.str "global") (.str "global") (.cons (.str "nonlocal") (.str "free") (.cons (.str "") (.str "free") .nil))))) (.var 4)))
  (.cons (.iff (.and (.cons (.of (.cmp .eq (.var 4) (.str ""))) (.cons (.of (.cmp .eq (.var 5) (.tup .nil))) .nil))) (.cons (.asg (.var 9) (.str "implicit"))
  .nil) .nil)
  (.cons (.asg (.var 10) (.call .iso 56 (.cons (.var 6) (.cons (.var 7) .nil))))
  (.cons (.iff (.of (.cmp .ne (.tup (.cons (.sidx .iso 2 23 (.var 10) (.str "x")) (.cons (.meth .iso 2 30 "home" (.var 10) (.cons (.str "x") .nil)) (.cons (.sidx .iso 2 23 (.var 10) (.str "g")) (.cons (.sidx .iso 2 23 (.var 10) (.str "d")) .nil))))) (.tup (.cons (.var 9) (.cons (.var 8) (.cons (.str "local") (.cons (.str "local") .nil))))))) (.cons (.ret (.bl false))
  .nil) .nil)
  (.cons (.for_ (.var 11) (.of (.lst true (.cons (.bin .add true (.var 7) (.tup (.cons (.int 0) .nil))) (.cons (.bin .add true (.var 7) (.tup (.cons (.int 1) .nil))) (.cons (.bin .add true (.var 7) (.tup (.cons (.int 2) .nil))) (.cons (.bin .add true (.var 7) (.tup (.cons (.int 3) .nil))) .nil)))))) (.cons (.asg (.var 14) (.tup (.cons (.ite (.of (.cmp .ne (.var 5) (.tup .nil))) (.str "free") (.str "implicit")) (.cons (.var 5) .nil))))
  (.cons (.iff (.of (.cmp .ne (.tup (.cons (.sidx .iso 2 23 (.call .iso 56 (.cons (.var 6) (.cons (.var 11) .nil))) (.str "x")) (.cons (.meth .iso 2 30 "home" (.call .iso 56 (.cons (.var 6) (.cons (.var 11) .nil))) (.cons (.str "x") .nil)) .nil))) (.var 14))) (.cons (.ret (.bl false))
  .nil) .nil)
  .nil)))
  (.cons (.iff (.of (.cmp .ne (.blt .repr true (.cons (.sin false .iso 2 25 (.str "x") (.call .iso 56 (.cons (.var 6) (.cons (.tup (.cons (.int 0) .nil)) .nil)))) .nil)) (.blt .repr true (.cons (.or (.cons (.var 12) (.cons (.cmp .eq (.var 5) (.tup (.cons (.int 0) .nil))) .nil))) .nil)))) (.cons (.ret (.bl false))
  .nil) .nil)
  (.cons (.iff (.and (.cons (.of (.var 13)) (.cons (.of (.cmp .ne (.sidx .iso 2 23 (.call .iso 56 (.cons (.var 6) (.cons (.tup (.cons (.int 0) (.cons (.int 0) .nil))) .nil))) (.str "x")) (.str "cell"))) .nil))) (.cons (.ret (.bl false))
  .nil) .nil)
  (.cons (.iff (.and (.cons (.of (.var 12)) (.cons (.of (.cmp .ne (.sidx .iso 2 23 (.call .iso 56 (.cons (.var 6) (.cons (.tup (.cons (.int 0) .nil)) .nil))) (.str "x")) (.idx (.lst true (.cons (.str "cell") (.cons (.str "local") .nil))) (.blt .intOf true (.cons (.var 13) .nil))))) .nil))) (.cons (.ret (.bl false))
  .nil) .nil)
  .nil)))))))))))))
abbrev A1:Fs:=call t.P 80
abbrev A2:Fs:=(aj t.P 80).2
def pj:Option (Fl×Ev.Env×Mm)→Option (Bool×Option D×Option D×Nat×Mm)
 | some (.nx,e,h)=>some (true,av e 0,av e 2,e.length,h)
 | some (.ct,e,h)=>some (false,av e 0,av e 2,e.length,h)
 | _=>none
theorem yr (n:Nat) (x0 x1 x3 x5 x6 x7 x8 x9 x10 x11 x14:Option D) (h:Mm):pj (az t.P A1 A2 tR [x0,x1,some (.ref n),x3,some (.str "bind"),x5,x6,x7,x8,x9,x10,x11,some (.bl false),some (.bl false),x14] h)=some (true,x0,some (.ref n),15,h):=by kernel_rfl
theorem zu (n:Nat) (x0 x1 x3 x5 x6 x7 x8 x9 x10 x11 x14:Option D) (h:Mm):pj (az t.P A1 A2 tR [x0,x1,some (.ref n),x3,some (.str "global"),x5,x6,x7,x8,x9,x10,x11,some (.bl false),some (.bl false),x14] h)=some (true,x0,some (.ref n),15,h):=by kernel_rfl
theorem yA (n:Nat) (x0 x1 x3 x5 x6 x7 x8 x9 x10 x11 x14:Option D) (h:Mm):pj (az t.P A1 A2 tR [x0,x1,some (.ref n),x3,some (.str "nonlocal"),x5,x6,x7,x8,x9,x10,x11,some (.bl false),some (.bl false),x14] h)=some (false,x0,some (.ref n),15,h):=by kernel_rfl
theorem yX (n:Nat) (x0 x1 x3 x5 x6 x7 x8 x9 x10 x11 x14:Option D) (h:Mm):pj (az t.P A1 A2 tR [x0,x1,some (.ref n),x3,some (.str ""),x5,x6,x7,x8,x9,x10,x11,some (.bl false),some (.bl false),x14] h)=some (true,x0,some (.ref n),15,h):=by kernel_rfl
theorem zj (n:Nat) (x0 x1 x3 x5 x6 x7 x8 x9 x10 x11 x14:Option D) (h:Mm):pj (az t.P A1 A2 tR [x0,x1,some (.ref n),x3,some (.str "bind"),x5,x6,x7,x8,x9,x10,x11,some (.bl false),some (.bl true),x14] h)=some (true,x0,some (.ref n),15,h):=by kernel_rfl
theorem ze (n:Nat) (x0 x1 x3 x5 x6 x7 x8 x9 x10 x11 x14:Option D) (h:Mm):pj (az t.P A1 A2 tR [x0,x1,some (.ref n),x3,some (.str "global"),x5,x6,x7,x8,x9,x10,x11,some (.bl false),some (.bl true),x14] h)=some (true,x0,some (.ref n),15,h):=by kernel_rfl
theorem yZ (n:Nat) (x0 x1 x3 x5 x6 x7 x8 x9 x10 x11 x14:Option D) (h:Mm):pj (az t.P A1 A2 tR [x0,x1,some (.ref n),x3,some (.str "nonlocal"),x5,x6,x7,x8,x9,x10,x11,some (.bl false),some (.bl true),x14] h)=some (true,x0,some (.ref n),15,h):=by kernel_rfl
theorem zf (n:Nat) (x0 x1 x3 x5 x6 x7 x8 x9 x10 x11 x14:Option D) (h:Mm):pj (az t.P A1 A2 tR [x0,x1,some (.ref n),x3,some (.str ""),x5,x6,x7,x8,x9,x10,x11,some (.bl false),some (.bl true),x14] h)=some (true,x0,some (.ref n),15,h):=by kernel_rfl
theorem zn (n:Nat) (x0 x1 x3 x5 x6 x7 x8 x9 x10 x11 x14:Option D) (h:Mm):pj (az t.P A1 A2 tR [x0,x1,some (.ref n),x3,some (.str "bind"),x5,x6,x7,x8,x9,x10,x11,some (.bl true),some (.bl false),x14] h)=some (true,x0,some (.ref n),15,h):=by kernel_rfl
theorem yy (n:Nat) (x0 x1 x3 x5 x6 x7 x8 x9 x10 x11 x14:Option D) (h:Mm):pj (az t.P A1 A2 tR [x0,x1,some (.ref n),x3,some (.str "global"),x5,x6,x7,x8,x9,x10,x11,some (.bl true),some (.bl false),x14] h)=some (true,x0,some (.ref n),15,h):=by kernel_rfl
theorem yB (n:Nat) (x0 x1 x3 x5 x6 x7 x8 x9 x10 x11 x14:Option D) (h:Mm):pj (az t.P A1 A2 tR [x0,x1,some (.ref n),x3,some (.str "nonlocal"),x5,x6,x7,x8,x9,x10,x11,some (.bl true),some (.bl false),x14] h)=some (true,x0,some (.ref n),15,h):=by kernel_rfl
theorem zb (n:Nat) (x0 x1 x3 x5 x6 x7 x8 x9 x10 x11 x14:Option D) (h:Mm):pj (az t.P A1 A2 tR [x0,x1,some (.ref n),x3,some (.str ""),x5,x6,x7,x8,x9,x10,x11,some (.bl true),some (.bl false),x14] h)=some (true,x0,some (.ref n),15,h):=by kernel_rfl
theorem yW (n:Nat) (x0 x1 x3 x5 x6 x7 x8 x9 x10 x11 x14:Option D) (h:Mm):pj (az t.P A1 A2 tR [x0,x1,some (.ref n),x3,some (.str "bind"),x5,x6,x7,x8,x9,x10,x11,some (.bl true),some (.bl true),x14] h)=some (true,x0,some (.ref n),15,h):=by kernel_rfl
theorem yM (n:Nat) (x0 x1 x3 x5 x6 x7 x8 x9 x10 x11 x14:Option D) (h:Mm):pj (az t.P A1 A2 tR [x0,x1,some (.ref n),x3,some (.str "global"),x5,x6,x7,x8,x9,x10,x11,some (.bl true),some (.bl true),x14] h)=some (true,x0,some (.ref n),15,h):=by kernel_rfl
theorem yJ (n:Nat) (x0 x1 x3 x5 x6 x7 x8 x9 x10 x11 x14:Option D) (h:Mm):pj (az t.P A1 A2 tR [x0,x1,some (.ref n),x3,some (.str "nonlocal"),x5,x6,x7,x8,x9,x10,x11,some (.bl true),some (.bl true),x14] h)=some (true,x0,some (.ref n),15,h):=by kernel_rfl
theorem zq (n:Nat) (x0 x1 x3 x5 x6 x7 x8 x9 x10 x11 x14:Option D) (h:Mm):pj (az t.P A1 A2 tR [x0,x1,some (.ref n),x3,some (.str ""),x5,x6,x7,x8,x9,x10,x11,some (.bl true),some (.bl true),x14] h)=some (true,x0,some (.ref n),15,h):=by kernel_rfl
def tB:Ss:=.cons (.par 12 13 (.cmp .eq (.call .sh 201 (.cons (.var 2) (.cons (.int 2) .nil))) (.int 0)) (.cmp .eq (.call .sh 201 (.cons (.var 2) (.cons (.int 2) .nil))) (.int 0))) (.cons (.asg (.var 4) (.idx (.lst true (.cons (.str "bind") (.cons (.str "global") (.cons (.str "nonlocal") (.cons (.str "") .nil))))) (.call .sh 201 (.cons (.var 2) (.cons (.int 4) .nil))))) tR)
def oB:Ss:=.cons (.asg (.var 2) (.call .liv 200 (.cons (.var 0) (.cons (.var 1) .nil)))) (.cons (.for_ (.var 3) (.rng (.cons (.int 8) .nil)) tB) .nil)
theorem HB:HasBag t.P:=⟨rfl,rfl⟩
theorem wA {env:Ev.Env} (h:env.length=15):∃ a0 a1 a2 a3 a4 a5 a6 a7 a8 a9 a10 a11 a12 a13 a14:Option D,env=[a0,a1,a2,a3,a4,a5,a6,a7,a8,a9,a10,a11,a12,a13,a14]:=by
 match env,h with
 | [a0,a1,a2,a3,a4,a5,a6,a7,a8,a9,a10,a11,a12,a13,a14],_=>exact⟨a0,a1,a2,a3,a4,a5,a6,a7,a8,a9,a10,a11,a12,a13,a14,rfl⟩
def ow (w:Nat):Str:=match w with | 0=>"bind" | 1=>"global" | 2=>"nonlocal" | _=>""
theorem yQ {r:Option (Fl×Ev.Env×Mm)} {b:Bool} {x y:Option D} {k:Nat} {h:Mm} (e:pj r=some (b,x,y,k,h)):∃ fl env,r=some (fl,env,h)∧(fl = .nx∨fl = .ct)∧av env 0=x∧av env 2=y∧env.length=k:=by
 unfold pj at e
 split at e
 ·cases e
  exact⟨_,_,rfl,.inl rfl,rfl,rfl,rfl⟩
 ·cases e
  exact⟨_,_,rfl,.inr rfl,rfl,rfl,rfl⟩
 ·cases e
theorem wy (n:Nat) (o m:Bool) (w:Nat) (hw:w < 4) (x0 x1 x3 x5 x6 x7 x8 x9 x10 x11 x14:Option D) (h:Mm):∃ b,pj (az t.P A1 A2 tR [x0,x1,some (.ref n),x3,some (.str (ow w)),x5,x6,x7,x8,x9,x10,x11,some (.bl o),some (.bl m),x14] h)=some (b,x0,some (.ref n),15,h):=by
 have:w=0∨w=1∨w=2∨w=3:=by omega
 cases o<;>cases m<;>rcases this with rfl | rfl | rfl | rfl
 ·exact⟨_,yr n x0 x1 x3 x5 x6 x7 x8 x9 x10 x11 x14 h⟩
 ·exact⟨_,zu n x0 x1 x3 x5 x6 x7 x8 x9 x10 x11 x14 h⟩
 ·exact⟨_,yA n x0 x1 x3 x5 x6 x7 x8 x9 x10 x11 x14 h⟩
 ·exact⟨_,yX n x0 x1 x3 x5 x6 x7 x8 x9 x10 x11 x14 h⟩
 ·exact⟨_,zj n x0 x1 x3 x5 x6 x7 x8 x9 x10 x11 x14 h⟩
 ·exact⟨_,ze n x0 x1 x3 x5 x6 x7 x8 x9 x10 x11 x14 h⟩
 ·exact⟨_,yZ n x0 x1 x3 x5 x6 x7 x8 x9 x10 x11 x14 h⟩
 ·exact⟨_,zf n x0 x1 x3 x5 x6 x7 x8 x9 x10 x11 x14 h⟩
 ·exact⟨_,zn n x0 x1 x3 x5 x6 x7 x8 x9 x10 x11 x14 h⟩
 ·exact⟨_,yy n x0 x1 x3 x5 x6 x7 x8 x9 x10 x11 x14 h⟩
 ·exact⟨_,yB n x0 x1 x3 x5 x6 x7 x8 x9 x10 x11 x14 h⟩
 ·exact⟨_,zb n x0 x1 x3 x5 x6 x7 x8 x9 x10 x11 x14 h⟩
 ·exact⟨_,yW n x0 x1 x3 x5 x6 x7 x8 x9 x10 x11 x14 h⟩
 ·exact⟨_,yM n x0 x1 x3 x5 x6 x7 x8 x9 x10 x11 x14 h⟩
 ·exact⟨_,yJ n x0 x1 x3 x5 x6 x7 x8 x9 x10 x11 x14 h⟩
 ·exact⟨_,zq n x0 x1 x3 x5 x6 x7 x8 x9 x10 x11 x14 h⟩
theorem nB {n:Nat} {env:Ev.Env} {h h1:Mm} {r:Int} (bg:av env 2=some (.ref n)) (e:A1 201 [.ref n,.int 2] h=some (.int r,h1)):af t.P A1 A2 (.cmp .eq (.call .sh 201 (.cons (.var 2) (.cons (.int 2) .nil))) (.int 0)) env h=some (.bl (decide (r=0)),h1):=by
 have es:aB t.P A1 A2 (.cons (.var 2) (.cons (.int 2) .nil)) env h=some ([.ref n,.int 2],h):=by
  rw[aB,jD,bg]
  rfl
 have c:af t.P A1 A2 (.call .sh 201 (.cons (.var 2) (.cons (.int 2) .nil))) env h=some (.int r,h1):=by
  rw[n6,es]
  exact e
 rw[wr,c]
 rfl
theorem vW (ns:List Int) (n:Nat) (env:Ev.Env) (h:Mm) (i:In1 15 2 ns n env h) (_:True):∃ fl env' h',az t.P (call t.P 80) (aj t.P 80).2 tB env h=some (fl,env',h')∧(fl = .nx∨fl = .ct)∧In1 15 2 ns n env' h'∧True:=by
 obtain⟨x0,x1,x2,x3,x4,x5,x6,x7,x8,x9,x10,x11,x12,x13,x14,rfl⟩:=wA i.len
 have j0:x0=some (aZ ns):=i.scr
 have j2:x2=some (.ref n):=i.bg
 subst j0
 subst j2
 obtain⟨r1,h1,e1,p1,q1,b1,_⟩:=j9 HB 79 i.b (s:=2) (by decide) (by decide)
 obtain⟨r2,h2,e2,p2,q2,b2,_⟩:=j9 HB 79 b1 (s:=2) (by decide) (by decide)
 obtain⟨r3,h3,e3,p3,q3,b3,_⟩:=j9 HB 79 b2 (s:=4) (by decide) (by decide)
 have s0:cb t.P A1 A2 (.par 12 13 (.cmp .eq (.call .sh 201 (.cons (.var 2) (.cons (.int 2) .nil))) (.int 0)) (.cmp .eq (.call .sh 201 (.cons (.var 2) (.cons (.int 2) .nil))) (.int 0))) [some (aZ ns),x1,some (.ref n),x3,x4,x5,x6,x7,x8,x9,x10,x11,x12,x13,x14] h=some (.nx,[some (aZ ns),x1,some (.ref n),x3,x4,x5,x6,x7,x8,x9,x10,x11,some (.bl (decide (r1=0))),some (.bl (decide (r2=0))),x14],h2):=by
  have a:=nB (env:=[some (aZ ns),x1,some (.ref n),x3,x4,x5,x6,x7,x8,x9,x10,x11,x12,x13,x14]) rfl e1
  have b:=nB (env:=[some (aZ ns),x1,some (.ref n),x3,x4,x5,x6,x7,x8,x9,x10,x11,x12,x13,x14]) rfl e2
  rw[show ∀ (a b:E) (env:Ev.Env) (h:Mm),cb t.P A1 A2 (.par 12 13 a b) env h=(match af t.P A1 A2 a env h with
   | some (x,h1)=>(match af t.P A1 A2 b env h1 with
    | some (y,h2)=>some (.nx,ay (ay env 12 x) 13 y,h2)
    | none=>none)
   | none=>none) from fun _ _ _ _=>rfl,a]
  dsimp only
  rw[b]
  rfl
 have s1:cb t.P A1 A2 (.asg (.var 4) (.idx (.lst true (.cons (.str "bind") (.cons (.str "global") (.cons (.str "nonlocal") (.cons (.str "") .nil))))) (.call .sh 201 (.cons (.var 2) (.cons (.int 4) .nil))))) [some (aZ ns),x1,some (.ref n),x3,x4,x5,x6,x7,x8,x9,x10,x11,some (.bl (decide (r1=0))),some (.bl (decide (r2=0))),x14] h2=some (.nx,[some (aZ ns),x1,some (.ref n),x3,some (.str (ow r3.toNat)),x5,x6,x7,x8,x9,x10,x11,some (.bl (decide (r1=0))),some (.bl (decide (r2=0))),x14],h3):=by
  have c:af t.P A1 A2 (.call .sh 201 (.cons (.var 2) (.cons (.int 4) .nil))) [some (aZ ns),x1,some (.ref n),x3,x4,x5,x6,x7,x8,x9,x10,x11,some (.bl (decide (r1=0))),some (.bl (decide (r2=0))),x14] h2=some (.int r3,h3):=e3
  refine qU (i:=4) ?_
  rw[wO]
  rw[show af t.P A1 A2 (.lst true (.cons (.str "bind") (.cons (.str "global") (.cons (.str "nonlocal") (.cons (.str "") .nil))))) [some (aZ ns),x1,some (.ref n),x3,x4,x5,x6,x7,x8,x9,x10,x11,some (.bl (decide (r1=0))),some (.bl (decide (r2=0))),x14] h2=some (.lst [.str "bind",.str "global",.str "nonlocal",.str ""],h2) from rfl]
  simp only[c]
  have:r3=0∨r3=1∨r3=2∨r3=3:=by omega
  rcases this with rfl | rfl | rfl | rfl<;>rfl
 obtain⟨b,q⟩:=wy n (decide (r1=0)) (decide (r2=0)) r3.toNat (by omega) (some (aZ ns)) x1 x3 x5 x6 x7 x8 x9 x10 x11 x14 h3
 obtain⟨fl,env',e,hf,g0,g2,ln⟩:=yQ q
 exact⟨fl,env',h3,(gP s0).trans ((gP s1).trans e),hf,⟨⟨ln,g0⟩,g2,b3⟩,trivial⟩
theorem hev (ns:List Int) (hn:ns.length≤63):∃ h',t.law iA (dI.N.length - 1) 80 [scr ns] .nil=some (.bl true,h'):=by
 obtain⟨env',h',q,o,_⟩:=vV HB (fun _=>True) 79 15 1 2 3 8 (by decide) (by decide) (by decide) (by decide) (by decide) (by decide) (by decide) (by decide) (by decide) tB ns (fun env j d hj hl hq=>trivial) (vW ns) oB rfl (max 2 (min 6 ns.length)) (by omega) [some (aZ ns),none,none,none,none,none,none,none,none,none,none,none,none,none,none] .nil ⟨rfl,rfl⟩ trivial
 have ri:=vF (P:=t.P) 2 6 (by decide) (by decide) (by decide) ns (call t.P 80) (aj t.P 80).2 [some (aZ ns),none,none,none,none,none,none,none,none,none,none,none,none,none,none] .nil rfl
 have fo:cb t.P (call t.P 80) (aj t.P 80).2 (.for_ (.var 1) (.rng (.cons (.blt .max2 true (.cons (.int 2) (.cons (.blt .min2 true (.cons (.int 6) (.cons (.blt .len true (.cons (.var 0) .nil)) .nil))) .nil))) .nil)) (.cons (.asg (.var 2) (.call .liv 200 (.cons (.var 0) (.cons (.var 1) .nil))))
  (.cons (.for_ (.var 3) (.rng (.cons (.int 8) .nil)) (.cons (.par 12 13 (.cmp .eq (.call .sh 201 (.cons (.var 2) (.cons (.int 2) .nil))) (.int 0)) (.cmp .eq (.call .sh 201 (.cons (.var 2) (.cons (.int 2) .nil))) (.int 0)))
  (.cons (.asg (.var 4) (.idx (.lst true (.cons (.str "bind") (.cons (.str "global") (.cons (.str "nonlocal") (.cons (.str "") .nil))))) (.call .sh 201 (.cons (.var 2) (.cons (.int 4) .nil)))))
  (.cons (.asg (.var 5) (.ite (.of (.var 13)) (.tup (.cons (.int 0) (.cons (.int 0) .nil))) (.ite (.of (.var 12)) (.tup (.cons (.int 0) .nil)) (.tup .nil))))
  (.cons (.iff (.and (.cons (.of (.cmp .eq (.var 4) (.str "nonlocal"))) (.cons (.of (.cmp .eq (.var 5) (.tup .nil))) .nil))) (.cons .cnt
  .nil) .nil)
  (.cons (.asg (.var 6) (.call .sh 348 (.cons (.var 2) (.cons (.var 12) (.cons (.var 13) (.cons (.var 4) .nil))))))
  (.cons (.asg (.var 7) (.tup (.cons (.int 0) (.cons (.int 0) (.cons (.int 0) .nil)))))
  (.cons (.asg (.var 8) (.idx (.dic true false (.cons (.str "bind") (.var 7) (.cons (.str "global") (.tup .nil) (.cons (.str "nonlocal") (.var 5) (.cons (.str "") (.var 5) .nil))))) (.var 4)))
  (.cons (.asg (.var 9) (.idx (.dic true false (.cons (.str "bind") (.str "local") (.cons (.str "global") (.str "global") (.cons (.str "nonlocal") (.str "free") (.cons (.str "") (.str "free") .nil))))) (.var 4)))
  (.cons (.iff (.and (.cons (.of (.cmp .eq (.var 4) (.str ""))) (.cons (.of (.cmp .eq (.var 5) (.tup .nil))) .nil))) (.cons (.asg (.var 9) (.str "implicit"))
  .nil) .nil)
  (.cons (.asg (.var 10) (.call .iso 56 (.cons (.var 6) (.cons (.var 7) .nil))))
  (.cons (.iff (.of (.cmp .ne (.tup (.cons (.sidx .iso 2 23 (.var 10) (.str "x")) (.cons (.meth .iso 2 30 "home" (.var 10) (.cons (.str "x") .nil)) (.cons (.sidx .iso 2 23 (.var 10) (.str "g")) (.cons (.sidx .iso 2 23 (.var 10) (.str "d")) .nil))))) (.tup (.cons (.var 9) (.cons (.var 8) (.cons (.str "local") (.cons (.str "local") .nil))))))) (.cons (.ret (.bl false))
  .nil) .nil)
  (.cons (.for_ (.var 11) (.of (.lst true (.cons (.bin .add true (.var 7) (.tup (.cons (.int 0) .nil))) (.cons (.bin .add true (.var 7) (.tup (.cons (.int 1) .nil))) (.cons (.bin .add true (.var 7) (.tup (.cons (.int 2) .nil))) (.cons (.bin .add true (.var 7) (.tup (.cons (.int 3) .nil))) .nil)))))) (.cons (.asg (.var 14) (.tup (.cons (.ite (.of (.cmp .ne (.var 5) (.tup .nil))) (.str "free") (.str "implicit")) (.cons (.var 5) .nil))))
  (.cons (.iff (.of (.cmp .ne (.tup (.cons (.sidx .iso 2 23 (.call .iso 56 (.cons (.var 6) (.cons (.var 11) .nil))) (.str "x")) (.cons (.meth .iso 2 30 "home" (.call .iso 56 (.cons (.var 6) (.cons (.var 11) .nil))) (.cons (.str "x") .nil)) .nil))) (.var 14))) (.cons (.ret (.bl false))
  .nil) .nil)
  .nil)))
  (.cons (.iff (.of (.cmp .ne (.blt .repr true (.cons (.sin false .iso 2 25 (.str "x") (.call .iso 56 (.cons (.var 6) (.cons (.tup (.cons (.int 0) .nil)) .nil)))) .nil)) (.blt .repr true (.cons (.or (.cons (.var 12) (.cons (.cmp .eq (.var 5) (.tup (.cons (.int 0) .nil))) .nil))) .nil)))) (.cons (.ret (.bl false))
  .nil) .nil)
  (.cons (.iff (.and (.cons (.of (.var 13)) (.cons (.of (.cmp .ne (.sidx .iso 2 23 (.call .iso 56 (.cons (.var 6) (.cons (.tup (.cons (.int 0) (.cons (.int 0) .nil))) .nil))) (.str "x")) (.str "cell"))) .nil))) (.cons (.ret (.bl false))
  .nil) .nil)
  (.cons (.iff (.and (.cons (.of (.var 12)) (.cons (.of (.cmp .ne (.sidx .iso 2 23 (.call .iso 56 (.cons (.var 6) (.cons (.tup (.cons (.int 0) .nil)) .nil))) (.str "x")) (.idx (.lst true (.cons (.str "cell") (.cons (.str "local") .nil))) (.blt .intOf true (.cons (.var 13) .nil))))) .nil))) (.cons (.ret (.bl false))
  .nil) .nil)
  .nil))))))))))))))))
  .nil))) [some (aZ ns),none,none,none,none,none,none,none,none,none,none,none,none,none,none] .nil=some (.nx,env',h'):=by
  rw[sg]
  refine Eq.trans ?_ q
  have ri':cy t.P (call t.P 80) (aj t.P 80).2 (.rng (.cons (.blt .max2 true (.cons (.int 2) (.cons (.blt .min2 true (.cons (.int 6) (.cons (.blt .len true (.cons (.var 0) .nil)) .nil))) .nil))) .nil)) [some (aZ ns),none,none,none,none,none,none,none,none,none,none,none,none,none,none] .nil=_:=ri
  rw[ri']
  rfl
 refine⟨h',?_⟩
 unfold Tab.law
 show (match az t.P (call t.P 80) (aj t.P 80).2 iA [some (aZ ns),none,none,none,none,none,none,none,none,none,none,none,none,none,none] .nil with | some (.nx,_,h')=>some (D.non,h') | some (.rt r,_,h')=>some (r,h') | _=>none)=_
 rw[show az t.P (call t.P 80) (aj t.P 80).2 iA [some (aZ ns),none,none,none,none,none,none,none,none,none,none,none,none,none,none] .nil=some (.rt (.bl true),env',h') from (gP fo).trans rfl]
end K16
theorem PySem.Challenge.cw_scopetables_k16_classes_holds : PySem.Challenge.rw_scopetables_k16_classes.Holds := by
 exact K16.head K16.hev
end
