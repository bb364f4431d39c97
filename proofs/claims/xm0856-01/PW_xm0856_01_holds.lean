import PyProof.Rows.All
import Wide.All
import OpenK.AllK
import Wide.FinOn
import KE.KItem
import KE.KWhile
import Lean
import PySem.Challenge.RW_xm0856_01
set_option Elab.async false
set_option genSizeOf false
set_option genInjectivity false
set_option bootstrap.genMatcherCode false
set_option linter.all false
section
namespace Mine
noncomputable section
inductive V where
 | none
 | bool (b:Bool)
 | int (i:Int)
 | bytes (b:List UInt8)
 | ref (i:Nat)
 deriving DecidableEq,Inhabited
inductive O where
 | list (l:List V)
 | tuple (l:List V)
 | dict (fs:List (Nat × V))
 | inst (c:Nat) (fs:List (Nat × V))
 | cell (v:Option V)
 | frame
 deriving Inhabited
instance:DecidableEq O:=λ_ _=>Classical.propDecidable _
inductive Bop where
 | add | sub | mul | fdiv | mod | band | bor | shl | shr
 deriving Inhabited
inductive Cop where
 | eq | ne | lt | le | gt | ge
mutual
inductive E where
 | var (x:Nat)
 | cvar (x:Nat)
 | int (i:Int)
 | gint (x:Nat) (i:Int)
 | neg (i:Int)
 | none
 | bool (b:Bool)
 | bytes (b:List UInt8)
 | bin (op:Bop) (a b:E)
 | cmp (op:Cop) (a b:E)
 | isNone (a:E)
 | notNone (a:E)
 | isIn (a b:E)
 | not (a:E)
 | and (a b:E)
 | or (a b:E)
 | attr (e:E) (n:Nat)
 | idx (e i:E)
 | key (e:E) (k:Nat)
 | sliceTo (e u:E)
 | rev (e:E)
 | call (f:Nat) (args:Es)
 | new (c:Nat) (args:Es)
 | meth (o:E) (m:Nat) (args:Es)
 | len (e:E)
 | bytesOf (e:E)
 | max (a b:E)
 | min (a b:E)
 | sortedKeys (e:E)
 | all (e:E)
 | append (o e:E)
 | remove (o e:E)
 | index (o e:E)
 | pop (o:E)
 | list (es:Es)
 | tuple (es:Es)
 | dict (ks:List Nat) (es:Es)
 | comp (elt:E) (x:Nat) (cs:List Nat) (it:E)
 | compR (elt:E) (x:Nat) (cs:List Nat) (a b c:E)
 | bad
inductive Es where
 | nil
 | cons (e:E) (es:Es)
end
mutual
inductive S where
 | assign (x:Nat) (e:E)
 | assignComp (x:Nat) (e:E)
 | cassign (x:Nat) (e:E)
 | unpack (xs:List Nat) (e:E)
 | setattr (o:E) (n:Nat) (e:E)
 | setidx (o i e:E)
 | aug (x:Nat) (op:Bop) (e:E)
 | augattr (o:E) (n:Nat) (op:Bop) (e:E)
 | expr (e:E)
 | ite (c:E) (a b:Ss)
 | while (c:E) (b:Ss)
 | for (x:Nat) (it:E) (b:Ss)
 | forT (xs:List Nat) (it:E) (b:Ss)
 | forR (x:Nat) (a b c:E) (body:Ss)
 | ret (e:E)
 | ret0
 | raise (c:Nat)
 | tryE (o:E) (m:Nat) (args:Es) (c:Nat) (r:E)
 | tryA (x:Nat) (o:E) (m:Nat) (args:Es) (c:Nat) (hret:Option E) (y:Nat)
 | delidx (o i:E)
 | brk
 | pass
 | bad
inductive Ss where
 | nil
 | cons (s:S) (ss:Ss)
end
noncomputable abbrev Hp:=List O
noncomputable abbrev En:=List (Option V)
inductive CRes where
 | val (v:V) (h:Hp)
 | exc (c:Nat) (h:Hp)
 | bad
inductive SRes where
 | nx (e:En) (h:Hp)
 | brk (e:En) (h:Hp)
 | ret (v:V) (h:Hp)
 | exc (c:Nat) (h:Hp)
 | bad
noncomputable abbrev CallF:=Nat→List V→Hp→CRes
noncomputable def big:Int:=2 ^ 62
noncomputable def isSmall (i:Int):Bool:=decide (-big < i) && decide (i < big)
noncomputable def capL:Nat:=2 ^ 20
noncomputable def truth (h:Hp):V→Option Bool
 | .bool b=>some b
 | .ref i=>match h[i]? with
  | some (.list l)=>if l.length < capL then some (!l.isEmpty) else Option.none
  | _=>Option.none
 | _=>Option.none
noncomputable def bopI (op:Bop) (i j:Int) (h:Hp):Option (V × Hp) :=
 match op with
 | .add=>some (.int (i + j),h)
 | .sub=>some (.int (i - j),h)
 | .mul=>if isSmall i && isSmall j then some (.int (i * j),h) else Option.none
 | .fdiv=>if 0 < j∧j < 1073741824 then some (.int (i / j),h) else Option.none
 | .mod=>if 0 < j then some (.int (i % j),h) else Option.none
 | .band=>if 0 ≤ i∧0 ≤ j then some (.int ((i.toNat &&& j.toNat:Nat)),h) else Option.none
 | .bor=>if 0 ≤ i∧0 ≤ j then some (.int ((i.toNat ||| j.toNat:Nat)),h) else Option.none
 | .shl=>if 0 ≤ i∧0 ≤ j∧j < 64∧i < 2 ^ 64 then some (.int (i * 2 ^ j.toNat),h) else Option.none
 | .shr=>if 0 ≤ i∧0 ≤ j∧j < 64 then some (.int (i / 2 ^ j.toNat),h) else Option.none
noncomputable def isAdd:Bop→Bool | .add=>true | _=>false
noncomputable def isMul:Bop→Bool | .mul=>true | _=>false
noncomputable def bop (op:Bop) (a b:V) (h:Hp):Option (V × Hp) :=
 match a with
 | .int i=>(match b with
  | .int j=>bopI op i j h
  | _=>Option.none)
 | .bytes x=>(match b with
  | .bytes y=>if isAdd op=true∧x.length + y.length < capL then some (.bytes (x ++ y),h) else Option.none
  | .int j=>if isMul op=true∧x ≠ []∧x.length ≤ 16∧0 ≤ j∧j ≤ 1048576 then some (.bytes (List.flatten (List.replicate j.toNat x)),h) else Option.none
  | _=>Option.none)
 | .ref x=>(match b with
  | .ref y=>(match h[x]? with
   | some (.list l)=>(match h[y]? with
    | some (.list r)=>if isAdd op=true∧l.length + r.length < capL then some (.ref h.length,h ++ [.list (l ++ r)]) else Option.none
    | _=>Option.none)
   | _=>Option.none)
  | .int j=>(match h[x]? with
   | some (.list [v])=>if isMul op=true∧0 ≤ j∧j < capL then some (.ref h.length,h ++ [.list (List.replicate j.toNat v)]) else Option.none
   | _=>Option.none)
  | _=>Option.none)
 | _=>Option.none
noncomputable def veq:V→V→Option Bool
 | .none,.none=>some true
 | .none,.int _=>some false
 | .int _,.none=>some false
 | .int i,.int j=>some (i == j)
 | .bool i,.bool j=>some (i == j)
 | .bytes i,.bytes j=>some (i == j)
 | _,_=>Option.none
noncomputable def veqs:List V→List V→Option Bool
 | [],[]=>some true
 | a :: l,b :: r=>match veq a b,veqs l r with
  | some x,some y=>some (x && y)
  | _,_=>Option.none
 | _,_=>Option.none
noncomputable def veqH (a b:V) (h:Hp):Option Bool :=
 match a,b with
 | .ref x,.ref y=>match h[x]?,h[y]? with
  | some (.tuple l),some (.tuple r)=>veqs l r
  | _,_=>Option.none
 | a,b=>veq a b
noncomputable def bltB:List UInt8→List UInt8→Bool
 | _,[]=>false
 | [],_ :: _=>true
 | a :: l,b :: r=>decide (a < b) || (a == b && bltB l r)
noncomputable def cmp1 (f:Int→Int→Bool) (a b:V):Option Bool:=match a,b with | .int i,.int j=>some (f i j) | _,_=>Option.none
noncomputable def cmp2 (f:Int→Int→Bool) (g:List UInt8→List UInt8→Bool) (a b:V):Option Bool:=match a,b with | .int i,.int j=>some (f i j) | .bytes i,.bytes j=>some (g i j) | _,_=>Option.none
noncomputable def cop (op:Cop) (a b:V) (h:Hp):Option Bool :=
 match op with
 | .eq=>veqH a b h
 | .ne=>(veqH a b h).map (!·)
 | .lt=>cmp2 (λi j=>decide (i < j)) bltB a b
 | .gt=>cmp2 (λi j=>decide (j < i)) (λi j=>bltB j i) a b
 | .le=>cmp1 (λi j=>decide (i ≤ j)) a b
 | .ge=>cmp1 (λi j=>decide (j ≤ i)) a b
noncomputable def place (i:Int) (n:Nat):Option Nat :=
 if 0 ≤ i∧i < n then some i.toNat else if i < 0∧0 ≤ i + n∧n < capL then some (i + n).toNat else Option.none
noncomputable def getIdx (v i:V) (h:Hp):Option V :=
 match v,i with
 | .bytes b,.int k=>(if 0 ≤ k∧k < b.length∧b.length < capL then some k.toNat else Option.none).bind λn=>b[n]?.map λx=>.int x.toNat
 | .ref r,.int k=>match h[r]? with
  | some (.list l)=>if l.length < capL then (place k l.length).bind λn=>l[n]? else Option.none
  | some (.tuple l)=>if l.length < capL then (place k l.length).bind λn=>l[n]? else Option.none
  | _=>Option.none
 | _,_=>Option.none
noncomputable def ints?:List V→Option (List Int)
 | []=>some []
 | .int i :: r=>(ints? r).map (i :: ·)
 | _=>Option.none
noncomputable def bools?:List V→Option (List Bool)
 | []=>some []
 | .bool i :: r=>(bools? r).map (i :: ·)
 | _=>Option.none
noncomputable def toBytes (l:List Int):Option (List UInt8) :=
 if l.all (λi=>decide (0 ≤ i) && decide (i < 256)) then some (l.map λi=>UInt8.ofNat i.toNat) else Option.none
noncomputable def setF (n:Nat) (v:V):List (Nat × V)→List (Nat × V)
 | []=>[(n,v)]
 | (k,u) :: r=>if k=n then (n,v) :: r else (k,u) :: setF n v r
noncomputable def getF (n:Nat):List (Nat × V)→Option V
 | []=>Option.none
 | (k,u) :: r=>if k=n then some u else getF n r
noncomputable def attrOf (fld:Nat→Nat→Bool) (v:V) (n:Nat) (h:Hp):Option V :=
 match v with
 | .ref i=>match h[i]? with
  | some (.inst c fs)=>if fld c n then getF n fs else Option.none
  | _=>Option.none
 | _=>Option.none
noncomputable def keyOf (v:V) (n:Nat) (h:Hp):Option V :=
 match v with
 | .ref i=>match h[i]? with
  | some (.dict fs)=>getF n fs
  | _=>Option.none
 | _=>Option.none
noncomputable def setAttr (fld:Nat→Nat→Bool) (v:V) (n:Nat) (u:V) (h:Hp):Option Hp :=
 match v with
 | .ref i=>match h[i]? with
  | some (.inst c fs)=>if fld c n && decide (fs.length < 100) then some (h.set i (.inst c (setF n u fs))) else Option.none
  | _=>Option.none
 | _=>Option.none
noncomputable def setIdx (v i u:V) (h:Hp):Option Hp :=
 match v,i with
 | .ref r,.int k=>match h[r]? with
  | some (.list l)=>if 0 ≤ k∧l.length < capL then (place k l.length).map λn=>h.set r (.list (l.set n u)) else Option.none
  | _=>Option.none
 | _,_=>Option.none
noncomputable def delIdx (v i:V) (h:Hp):Option Hp :=
 match v,i with
 | .ref r,.int k=>match h[r]? with
  | some (.list l)=>if 0 ≤ k∧l.length < capL then (place k l.length).map λn=>h.set r (.list (l.eraseIdx n)) else Option.none
  | _=>Option.none
 | _,_=>Option.none
noncomputable def listOp (v:V) (f:List V→Option (V × List V)) (h:Hp):Option (V × Hp) :=
 match v with
 | .ref r=>match h[r]? with
  | some (.list l)=>(f l).map λp=>(p.1,h.set r (.list p.2))
  | _=>Option.none
 | _=>Option.none
noncomputable def appendF (u:V) (l:List V):Option (V × List V):=if l.length < capL then some (.none,l ++ [u]) else Option.none
noncomputable def popF (l:List V):Option (V × List V) :=
 if l.length < capL then l.getLast?.map λv=>(v,l.dropLast) else Option.none
noncomputable def findV (k:Int):List V→Option Nat
 | []=>Option.none
 | .int i :: r=>if i=k then some 0 else (findV k r).map (· + 1)
 | _=>Option.none
noncomputable def removeF (k:Int) (l:List V):Option (V × List V):=if l.length < capL then (if (ints? l).isSome then findV k l else Option.none).map λn=>(.none,l.eraseIdx n) else Option.none
noncomputable def indexF (k:Int) (l:List V):Option (V × List V):=if l.length < capL then (if (ints? l).isSome then findV k l else Option.none).map fun (n:Nat)=>(.int n,l) else Option.none
noncomputable def theKeys:List V:=[.bytes [107],.bytes [107,0],.bytes []]
noncomputable def keysSorted:List V:=[.bytes [],.bytes [107],.bytes [107,0]]
noncomputable def lenOf (v:V) (h:Hp):Option Nat :=
 match v with
 | .bytes b=>if b.length < capL then some b.length else Option.none
 | .ref i=>match h[i]? with
  | some (.list l)=>if l.length < capL then some l.length else Option.none
  | some (.tuple l)=>if l.length < capL then some l.length else Option.none
  | _=>Option.none
 | _=>Option.none
noncomputable def isInF (u v:V) (H:Hp):Option (V × Hp):=match u,v with
 | .int k,.ref r=>match H[r]? with
  | some (.list l)=>if l.length < capL then (ints? l).map λns=>(.bool (ns.contains k),H) else Option.none
  | _=>Option.none
 | _,_=>Option.none
noncomputable def bytesF (u:V) (H:Hp):Option (V × Hp):=match u with
 | .bytes b=>some (.bytes b,H)
 | .ref r=>match H[r]? with
  | some (.list l)=>if l.length < capL then ((ints? l).bind toBytes).map λb=>(.bytes b,H) else Option.none
  | _=>Option.none
 | _=>Option.none
noncomputable def allF (u:V) (H:Hp):Option (V × Hp):=match u with
 | .ref r=>match H[r]? with
  | some (.list l)=>if l.length < capL then (bools? l).map λbs=>(.bool (bs.all id),H) else Option.none
  | _=>Option.none
 | _=>Option.none
noncomputable def sortF (u:V) (H:Hp):Option (V × Hp):=match u with
 | .ref r=>match H[r]? with
  | some (.list l)=>if l=theKeys then some (.ref H.length,H ++ [.list keysSorted]) else Option.none
  | _=>Option.none
 | _=>Option.none
noncomputable def maxF (u v:V) (H:Hp):Option (V × Hp):=match u,v with
 | .int i,.int j=>some (.int (if i < j then j else i),H)
 | _,_=>Option.none
noncomputable def minF (u v:V) (H:Hp):Option (V × Hp):=match u,v with
 | .int i,.int j=>some (.int (if j < i then j else i),H)
 | _,_=>Option.none
noncomputable def remF (u v:V) (H:Hp):Option (V × Hp):=match v with
 | .int k=>listOp u (removeF k) H
 | _=>Option.none
noncomputable def idxF (u v:V) (H:Hp):Option (V × Hp):=match v with
 | .int k=>listOp u (indexF k) H
 | _=>Option.none
noncomputable def slF (u v:V) (h:Hp):Option (V × Hp):=match v with
 | .int k=>if 0 ≤ k∧k < capL then (match u with
  | .bytes l=>if l.length < capL then some (.bytes (l.take k.toNat),h) else Option.none
  | .ref r=>match h[r]? with
   | some (.list l)=>if l.length < capL then some (.ref h.length,h ++ [.list (l.take k.toNat)]) else Option.none
   | _=>Option.none
  | _=>Option.none) else Option.none
 | _=>Option.none
noncomputable def revF (u:V) (h:Hp):Option (V × Hp):=match u with
 | .ref r=>match h[r]? with
  | some (.list l)=>if l.length < capL then some (.ref h.length,h ++ [.list l.reverse]) else Option.none
  | _=>Option.none
 | _=>Option.none
noncomputable def rangeCount (a b c:Int):Nat:=if a < b then ((b - a - 1) / c + 1).toNat else 0
noncomputable def rangeOk (a b c:Int):Bool:=isSmall a && isSmall b && decide (0 < c) && decide (c < 1073741824)
noncomputable def put (e:En) (x:Nat) (v:V):En:=e.set x (some v)
noncomputable def puts (e:En):List Nat→List V→Option En
 | [],[]=>some e
 | x :: xs,v :: vs=>puts (put e x v) xs vs
 | _,_=>Option.none
noncomputable def look (e:En) (x:Nat):Option V:=e[x]?.join
noncomputable def isL (v:V) (h:Hp):Bool :=
 match v with
 | .ref r=>match h[r]? with
  | some (.list _)=>true
  | _=>false
 | _=>false
structure FDef where
 params:Nat
 size:Nat
 body:Ss
 cells:List Nat:=[]
structure Prg where
 fn:Nat→Option FDef
 init:Nat→Option (Option Nat)
 meth:Nat→Nat→Option Nat
 fld:Nat→Nat→Bool
section
variable (P:Prg) (call:CallF)
noncomputable def methOf (v:V) (m:Nat) (h:Hp):Option Nat :=
 match v with
 | .ref i=>match h[i]? with
  | some (.inst c fs)=>if (getF m fs).isNone then P.meth c m else Option.none
  | _=>Option.none
 | _=>Option.none
noncomputable def newF (c:Nat) (vs:List V) (h:Hp):Option (V × Hp):=match P.init c with
 | some (some f)=>match call f (.ref h.length :: vs) (h ++ [.inst c []]) with
  | .val .none h'=>some (.ref h.length,h')
  | _=>Option.none
 | some Option.none=>if vs.isEmpty then some (.ref h.length,h ++ [.inst c []]) else Option.none
 | Option.none=>Option.none
noncomputable def compL (elt:V→Hp→Option (V × Hp)) (r:Nat) (l:List V):List V→List V→Hp→Option (V × Hp)
 | [],acc,h=>if h[r]?=some (.list l) then some (.ref h.length,h ++ [.list acc]) else Option.none
 | v :: rest,acc,h=>if h[r]?=some (.list l) then (match elt v h with
   | some (u,h')=>compL elt r l rest (acc ++ [u]) h'
   | Option.none=>Option.none) else Option.none
noncomputable def maskE (cs:List Nat) (e:En):En:=e.zipIdx.map λp=>if cs.contains p.2 then p.1 else Option.none
noncomputable def compRL (elt:V→Hp→Option (V × Hp)) (a c:Int):Nat→Nat→List V→Hp→Option (V × Hp)
 | 0,_,acc,h=>some (.ref h.length,h ++ [.list acc])
 | n + 1,i,acc,h=>match elt (.int (a + c * i)) h with
  | some (u,h')=>compRL elt a c n (i + 1) (acc ++ [u]) h'
  | Option.none=>Option.none
mutual
noncomputable def ev:E→En→Hp→Option (V × Hp)
 | .var x,e,h=>(look e x).map λv=>(v,h)
 | .cvar x,e,h=>match look e x with
  | some (.ref i)=>match h[i]? with
   | some (.cell (some v))=>some (v,h)
   | _=>Option.none
  | _=>Option.none
 | .int i,_,h=>some (.int i,h)
 | .gint _ i,_,h=>some (.int i,h)
 | .neg i,_,h=>some (.int (-i),h)
 | .none,_,h=>some (.none,h)
 | .bool b,_,h=>some (.bool b,h)
 | .bytes b,_,h=>some (.bytes b,h)
 | .bin op a b,e,h=>match ev a e h with
  | some (u,h)=>match ev b e h with
   | some (v,h)=>bop op u v h
   | _=>Option.none
  | _=>Option.none
 | .cmp op a b,e,h=>match ev a e h with
  | some (u,h)=>match ev b e h with
   | some (v,h)=>(cop op u v h).map λb=>(.bool b,h)
   | _=>Option.none
  | _=>Option.none
 | .isNone a,e,h=>match ev a e h with
  | some (u,h)=>some (.bool (u == .none),h)
  | _=>Option.none
 | .notNone a,e,h=>match ev a e h with
  | some (u,h)=>some (.bool (u != .none),h)
  | _=>Option.none
 | .isIn a b,e,h=>match ev a e h with
  | some (u,h)=>match ev b e h with
   | some (v,h)=>isInF u v h
   | _=>Option.none
  | _=>Option.none
 | .not a,e,h=>match ev a e h with
  | some (u,h)=>(truth h u).map λb=>(.bool (!b),h)
  | _=>Option.none
 | .and a b,e,h=>match ev a e h with
  | some (u,h)=>match truth h u with
   | some true=>ev b e h
   | some false=>some (u,h)
   | Option.none=>Option.none
  | _=>Option.none
 | .or a b,e,h=>match ev a e h with
  | some (u,h)=>match truth h u with
   | some true=>some (u,h)
   | some false=>ev b e h
   | Option.none=>Option.none
  | _=>Option.none
 | .attr a n,e,h=>match ev a e h with
  | some (u,h)=>(attrOf P.fld u n h).map λv=>(v,h)
  | _=>Option.none
 | .idx a i,e,h=>match ev a e h with
  | some (u,h)=>match ev i e h with
   | some (k,h)=>(getIdx u k h).map λv=>(v,h)
   | _=>Option.none
  | _=>Option.none
 | .key a n,e,h=>match ev a e h with
  | some (u,h)=>(keyOf u n h).map λv=>(v,h)
  | _=>Option.none
 | .sliceTo a b,e,h=>match ev a e h with
  | some (u,h)=>match ev b e h with
   | some (v,h)=>slF u v h
   | _=>Option.none
  | _=>Option.none
 | .rev a,e,h=>match ev a e h with
  | some (u,h)=>revF u h
  | _=>Option.none
 | .call f as,e,h=>match evs as e h with
  | some (vs,h)=>match call f vs h with
   | .val v h=>some (v,h)
   | _=>Option.none
  | _=>Option.none
 | .new c as,e,h=>match evs as e h with
  | some (vs,h)=>newF P call c vs h
  | _=>Option.none
 | .meth o m as,e,h=>match ev o e h with
  | some (u,h)=>match methOf P u m h with
   | some f=>match evs as e h with
    | some (vs,h)=>match call f (u :: vs) h with
     | .val v h=>some (v,h)
     | _=>Option.none
    | _=>Option.none
   | _=>Option.none
  | _=>Option.none
 | .len a,e,h=>match ev a e h with
  | some (u,h)=>(lenOf u h).map fun (n:Nat)=>(.int n,h)
  | _=>Option.none
 | .bytesOf a,e,h=>match ev a e h with
  | some (u,h)=>bytesF u h
  | _=>Option.none
 | .max a b,e,h=>match ev a e h with
  | some (u,h)=>match ev b e h with
   | some (v,h)=>maxF u v h
   | _=>Option.none
  | _=>Option.none
 | .min a b,e,h=>match ev a e h with
  | some (u,h)=>match ev b e h with
   | some (v,h)=>minF u v h
   | _=>Option.none
  | _=>Option.none
 | .sortedKeys a,e,h=>match ev a e h with
  | some (u,h)=>sortF u h
  | _=>Option.none
 | .all a,e,h=>match ev a e h with
  | some (u,h)=>allF u h
  | _=>Option.none
 | .append o a,e,h=>match ev o e h with
  | some (u,h)=>if isL u h then (match ev a e h with
   | some (v,h)=>listOp u (appendF v) h
   | _=>Option.none) else Option.none
  | _=>Option.none
 | .remove o a,e,h=>match ev o e h with
  | some (u,h)=>if isL u h then (match ev a e h with
   | some (v,h)=>remF u v h
   | _=>Option.none) else Option.none
  | _=>Option.none
 | .index o a,e,h=>match ev o e h with
  | some (u,h)=>if isL u h then (match ev a e h with
   | some (v,h)=>idxF u v h
   | _=>Option.none) else Option.none
  | _=>Option.none
 | .pop o,e,h=>match ev o e h with
  | some (u,h)=>listOp u popF h
  | _=>Option.none
 | .list as,e,h=>match evs as e h with
  | some (vs,h)=>some (.ref h.length,h ++ [.list vs])
  | _=>Option.none
 | .tuple as,e,h=>match evs as e h with
  | some (vs,h)=>some (.ref h.length,h ++ [.tuple vs])
  | _=>Option.none
 | .dict ks as,e,h=>match evs as e h with
  | some (vs,h)=>if ks.length=vs.length then some (.ref h.length,h ++ [.dict (ks.zip vs)]) else Option.none
  | _=>Option.none
 | .comp elt x cs it,e,h=>match ev it e h with
  | some (.ref r,h)=>match h[r]? with
   | some (.list l)=>if l.length < capL then compL (λv h=>ev elt (put (maskE cs e) x v) h) r l l [] h else Option.none
   | _=>Option.none
  | _=>Option.none
 | .compR elt x cs a b c,e,h=>match ev a e h with
  | some (.int i,h)=>match ev b e h with
   | some (.int j,h)=>match ev c e h with
    | some (.int k,h)=>if rangeOk i j k && decide (rangeCount i j k < capL) then compRL (λv h=>ev elt (put (maskE cs e) x v) h) i k (rangeCount i j k) 0 [] h else Option.none
    | _=>Option.none
   | _=>Option.none
  | _=>Option.none
 | .bad,_,_=>Option.none
noncomputable def evs:Es→En→Hp→Option (List V × Hp)
 | .nil,_,h=>some ([],h)
 | .cons a as,e,h=>match ev a e h with
  | some (v,h)=>match evs as e h with
   | some (vs,h)=>some (v :: vs,h)
   | _=>Option.none
  | _=>Option.none
end
noncomputable def tv (c:E) (e:En) (h:Hp):Option (Bool × Hp) :=
 match ev P call c e h with
 | some (v,h)=>(truth h v).map λb=>(b,h)
 | Option.none=>Option.none
noncomputable def wloop (t:En→Hp→Option (Bool × Hp)) (b:En→Hp→SRes):Nat→En→Hp→SRes
 | 0,_,_=>.bad
 | n + 1,e,h=>match t e h with
  | some (true,h)=>match b e h with
   | .nx e h=>wloop t b n e h
   | .brk e h=>.nx e h
   | .ret v h=>.ret v h
   | _=>.bad
  | some (false,h)=>.nx e h
  | Option.none=>.bad
noncomputable def rloop (st:En→V→En) (b:En→Hp→SRes) (a c:Int):Nat→Nat→En→Hp→SRes
 | 0,_,e,h=>.nx e h
 | n + 1,i,e,h=>match b (st e (.int (a + c * i))) h with
  | .nx e h=>rloop st b a c n (i + 1) e h
  | .brk e h=>.nx e h
  | .ret v h=>.ret v h
  | _=>.bad
noncomputable def listAt (r:Nat) (h:Hp):Option (List V) :=
 match h[r]? with
 | some (.list l)=>if l.length < capL then some l else Option.none
 | _=>Option.none
noncomputable def tupAt (r:Nat) (h:Hp):Option (List V) :=
 match h[r]? with
 | some (.tuple l)=>if l.length < capL then some l else Option.none
 | _=>Option.none
noncomputable def floop (st:En→V→Hp→Option En) (b:En→Hp→SRes) (sel:Hp→Option (List V)):Nat→Nat→En→Hp→SRes
 | 0,_,_,_=>.bad
 | n + 1,i,e,h =>
  match sel h with
  | some l=>match l[i]? with
    | some v=>match st e v h with
     | some e=>match b e h with
      | .nx e h=>floop st b sel n (i + 1) e h
      | .brk e h=>.nx e h
      | .ret v h=>.ret v h
      | _=>.bad
     | Option.none=>.bad
    | Option.none=>.nx e h
  | Option.none=>.bad
noncomputable def tupOf (v:V) (h:Hp):Option (List V) :=
 match v with
 | .ref i=>match h[i]? with
  | some (.tuple l)=>some l
  | _=>Option.none
 | _=>Option.none
noncomputable def tryRes (rc:CRes) (e:En) (kv:V→Hp→SRes) (c:Nat) (rh:En→Hp→SRes):SRes :=
 match rc with
 | .val v h=>kv v h
 | .exc c' h=>if c'=c then rh e h else .bad
 | .bad=>.bad
noncomputable def hdlF (r:Option E) (y:Nat) (e:En) (h:Hp):SRes:=match r with
 | some r=>(match ev P call r e h with
  | some (v,h)=>.ret v h
  | _=>.bad)
 | Option.none=>.nx (put e y .none) h
mutual
noncomputable def ex:S→En→Hp→SRes
 | .assign x a,e,h=>match ev P call a e h with
  | some (v,h)=>.nx (put e x v) h
  | _=>.bad
 | .assignComp x a,e,h=>match ev P call a e h with
  | some (v,h)=>.nx (put e x v) h
  | _=>.bad
 | .cassign x a,e,h=>match ev P call a e h with
  | some (v,h)=>match look e x with
   | some (.ref i)=>match h[i]? with
    | some (.cell _)=>.nx e (h.set i (.cell (some v)))
    | _=>.bad
   | _=>.bad
  | _=>.bad
 | .unpack xs a,e,h=>match ev P call a e h with
  | some (v,h)=>match tupOf v h with
   | some l=>match puts e xs l with
    | some e=>.nx e h
    | _=>.bad
   | _=>.bad
  | _=>.bad
 | .setattr o n a,e,h=>match ev P call a e h with
  | some (v,h)=>match ev P call o e h with
   | some (u,h)=>match setAttr P.fld u n v h with
    | some h=>.nx e h
    | _=>.bad
   | _=>.bad
  | _=>.bad
 | .setidx o i a,e,h=>match ev P call a e h with
  | some (v,h)=>match ev P call o e h with
   | some (u,h)=>match ev P call i e h with
    | some (k,h)=>match setIdx u k v h with
     | some h=>.nx e h
     | _=>.bad
    | _=>.bad
   | _=>.bad
  | _=>.bad
 | .aug x op a,e,h=>match look e x with
  | some (.int i)=>match ev P call a e h with
   | some (.int j,h)=>match bop op (.int i) (.int j) h with
    | some (v,h)=>.nx (put e x v) h
    | _=>.bad
   | _=>.bad
  | _=>.bad
 | .augattr o n op a,e,h=>match ev P call o e h with
  | some (u,h)=>match attrOf P.fld u n h with
   | some (.int i)=>match ev P call a e h with
    | some (.int j,h)=>match bop op (.int i) (.int j) h with
     | some (v,h)=>match setAttr P.fld u n v h with
      | some h=>.nx e h
      | _=>.bad
     | _=>.bad
    | _=>.bad
   | _=>.bad
  | _=>.bad
 | .expr a,e,h=>match ev P call a e h with
  | some (.ref _,_)=>.bad
  | some (_,h)=>.nx e h
  | _=>.bad
 | .ite c a b,e,h=>match tv P call c e h with
  | some (true,h)=>exs a e h
  | some (false,h)=>exs b e h
  | Option.none=>.bad
 | .while c b,e,h=>wloop (λe h=>tv P call c e h) (λe h=>exs b e h) capL e h
 | .for x it b,e,h=>match ev P call it e h with
  | some (.ref r,h)=>match h[r]? with
   | some (.list _)=>floop (λe v _=>some (put e x v)) (λe h=>exs b e h) (listAt r) capL 0 e h
   | some (.tuple _)=>floop (λe v _=>some (put e x v)) (λe h=>exs b e h) (tupAt r) capL 0 e h
   | _=>.bad
  | _=>.bad
 | .forT xs it b,e,h=>match ev P call it e h with
  | some (.ref r,h)=>floop (λe v h=>(tupOf v h).bind λl=>puts e xs l) (λe h=>exs b e h) (listAt r) capL 0 e h
  | _=>.bad
 | .forR x a b c body,e,h=>match ev P call a e h with
  | some (.int i,h)=>match ev P call b e h with
   | some (.int j,h)=>match ev P call c e h with
    | some (.int k,h)=>if rangeOk i j k then rloop (λe v=>put e x v) (λe h=>exs body e h) i k (rangeCount i j k) 0 e h else .bad
    | _=>.bad
   | _=>.bad
  | _=>.bad
 | .ret a,e,h=>match ev P call a e h with
  | some (v,h)=>.ret v h
  | _=>.bad
 | .ret0,_,h=>.ret .none h
 | .raise c,_,h=>.exc c h
 | .tryE o m as c r,e,h=>match ev P call o e h with
  | some (u,h)=>match methOf P u m h with
   | some f=>match evs P call as e h with
    | some (vs,h)=>tryRes (call f (u :: vs) h) e (λv h=>match v with | .none=>.nx e h | _=>.bad) c (hdlF P call (some r) 0)
    | _=>.bad
   | _=>.bad
  | _=>.bad
 | .tryA x o m as c hret y,e,h=>match ev P call o e h with
  | some (u,h)=>match methOf P u m h with
   | some f=>match evs P call as e h with
    | some (vs,h)=>tryRes (call f (u :: vs) h) e (λv h=>.nx (put e x v) h) c (hdlF P call hret y)
    | _=>.bad
   | _=>.bad
  | _=>.bad
 | .delidx o i,e,h=>match ev P call o e h with
  | some (u,h)=>match ev P call i e h with
   | some (k,h)=>match delIdx u k h with
    | some h=>.nx e h
    | _=>.bad
   | _=>.bad
  | _=>.bad
 | .brk,e,h=>.brk e h
 | .pass,e,h=>.nx e h
 | .bad,_,_=>.bad
noncomputable def exs:Ss→En→Hp→SRes
 | .nil,e,h=>.nx e h
 | .cons s ss,e,h=>match ex s e h with
  | .nx e h=>exs ss e h
  | r=>r
end
end
noncomputable def cellsIn:List Nat→En→Hp→En × Hp
 | [],e,h=>(e,h)
 | x :: xs,e,h=>cellsIn xs (put e x (.ref h.length)) (h ++ [.cell (look e x)])
noncomputable def runBody (P:Prg) (call:CallF) (D:FDef) (vs:List V) (h:Hp):CRes :=
 if vs.length=D.params then
  let c:=cellsIn D.cells (vs.map some ++ List.replicate (D.size - D.params) Option.none) (h ++ [.frame])
  match exs P call D.body c.1 c.2 with
  | .nx _ h=>.val .none h
  | .ret v h=>.val v h
  | .exc c h=>.exc c h
  | _=>.bad
 else .bad
noncomputable def run (P:Prg):Nat→CallF
 | 0,_,_,_=>.bad
 | n + 1,f,vs,h=>match P.fn f with
  | some D=>runBody P (run P n) D vs h
  | Option.none=>.bad
end
noncomputable section
noncomputable def b_SnapMark_init:Ss:=.cons (.setattr (.var 0) 0 (.var 1)) (.cons (.setattr (.var 0) 1 (.var 2)) (.cons (.setattr (.var 0) 2 (.bool true)) .nil))
noncomputable def b_MarkList_init:Ss:=.cons (.setattr (.var 0) 3 (.list .nil)) (.cons (.setattr (.var 0) 4 (.int 0)) .nil)
noncomputable def b_MarkList_size:Ss:=.cons (.ret (.len (.attr (.var 0) 3))) .nil
noncomputable def b_MarkList_add:Ss:=.cons (.ite (.and (.attr (.var 0) 3) (.cmp .gt (.attr (.idx (.attr (.var 0) 3) (.neg 1)) 1) (.var 1))) (.cons (.raise 8) .nil) .nil) (.cons (.augattr (.var 0) 4 .add (.int 1)) (.cons (.assign 2 (.new 9 (.cons (.attr (.var 0) 4) (.cons (.var 1) .nil)))) (.cons (.expr (.append (.attr (.var 0) 3) (.var 2))) (.cons (.ret (.var 2)) .nil))))
noncomputable def b_MarkList_place:Ss:=.cons (.assign 2 (.int 0)) (.cons (.assign 3 (.len (.attr (.var 0) 3))) (.cons (.while (.cmp .lt (.var 2) (.var 3)) (.cons (.assign 4 (.bin .fdiv (.bin .add (.var 2) (.var 3)) (.int 2))) (.cons (.ite (.cmp .lt (.attr (.idx (.attr (.var 0) 3) (.var 4)) 0) (.attr (.var 1) 0)) (.cons (.assign 2 (.bin .add (.var 4) (.int 1))) .nil) (.cons (.assign 3 (.var 4)) .nil)) .nil))) (.cons (.ite (.or (.cmp .eq (.var 2) (.len (.attr (.var 0) 3))) (.not (.attr (.var 1) 2))) (.cons (.ret (.neg 1)) .nil) .nil) (.cons (.assign 5 (.idx (.attr (.var 0) 3) (.var 2))) (.cons (.ite (.or (.cmp .ne (.attr (.var 5) 0) (.attr (.var 1) 0)) (.cmp .ne (.attr (.var 5) 1) (.attr (.var 1) 1))) (.cons (.ret (.neg 1)) .nil) .nil) (.cons (.ret (.var 2)) .nil))))))
noncomputable def b_MarkList_holds:Ss:=.cons (.ret (.cmp .ge (.meth (.var 0) 5 (.cons (.var 1) .nil)) (.int 0))) .nil
noncomputable def b_MarkList_drop:Ss:=.cons (.assign 2 (.meth (.var 0) 5 (.cons (.var 1) .nil))) (.cons (.ite (.cmp .lt (.var 2) (.int 0)) (.cons (.raise 8) .nil) .nil) (.cons (.setattr (.idx (.attr (.var 0) 3) (.var 2)) 2 (.bool false)) (.cons (.setattr (.var 1) 2 (.bool false)) (.cons (.delidx (.attr (.var 0) 3) (.var 2)) .nil))))
noncomputable def b_MarkList_drop_all:Ss:=.cons (.for 1 (.attr (.var 0) 3) (.cons (.setattr (.var 1) 2 (.bool false)) .nil)) (.cons (.setattr (.var 0) 3 (.list .nil)) .nil)
noncomputable def b_MarkList_smallest:Ss:=.cons (.ite (.not (.attr (.var 0) 3)) (.cons (.raise 4) .nil) .nil) (.cons (.ret (.attr (.idx (.attr (.var 0) 3) (.int 0)) 1)) .nil)
noncomputable def b_put_fixed32:Ss:=.cons (.ite (.or (.cmp .lt (.var 0) (.int 0)) (.cmp .gt (.var 0) (.gint 6 4294967295))) (.cons (.bad) .nil) .nil) (.cons (.ret (.bytesOf (.list (.cons (.bin .band (.var 0) (.int 255)) (.cons (.bin .band (.bin .shr (.var 0) (.int 8)) (.int 255)) (.cons (.bin .band (.bin .shr (.var 0) (.int 16)) (.int 255)) (.cons (.bin .shr (.var 0) (.int 24)) .nil))))))) .nil)
noncomputable def b_put_fixed64:Ss:=.cons (.ite (.or (.cmp .lt (.var 0) (.int 0)) (.cmp .gt (.var 0) (.gint 7 18446744073709551615))) (.cons (.bad) .nil) .nil) (.cons (.ret (.bin .add (.call 9 (.cons (.bin .band (.var 0) (.gint 6 4294967295)) .nil)) (.call 9 (.cons (.bin .shr (.var 0) (.int 32)) .nil)))) .nil)
noncomputable def b_read_fixed32:Ss:=.cons (.ite (.or (.cmp .lt (.var 1) (.int 0)) (.cmp .gt (.bin .add (.var 1) (.int 4)) (.len (.var 0)))) (.cons (.bad) .nil) .nil) (.cons (.ret (.bin .bor (.bin .bor (.bin .bor (.idx (.var 0) (.var 1)) (.bin .shl (.idx (.var 0) (.bin .add (.var 1) (.int 1))) (.int 8))) (.bin .shl (.idx (.var 0) (.bin .add (.var 1) (.int 2))) (.int 16))) (.bin .shl (.idx (.var 0) (.bin .add (.var 1) (.int 3))) (.int 24)))) .nil)
noncomputable def b_read_fixed64:Ss:=.cons (.ite (.or (.cmp .lt (.var 1) (.int 0)) (.cmp .gt (.bin .add (.var 1) (.int 8)) (.len (.var 0)))) (.cons (.bad) .nil) .nil) (.cons (.ret (.bin .bor (.call 11 (.cons (.var 0) (.cons (.var 1) .nil))) (.bin .shl (.call 11 (.cons (.var 0) (.cons (.bin .add (.var 1) (.int 4)) .nil))) (.int 32)))) .nil)
noncomputable def b_pack_tag:Ss:=.cons (.ite (.or (.cmp .lt (.var 0) (.int 0)) (.cmp .gt (.var 0) (.gint 8 72057594037927935))) (.cons (.bad) .nil) .nil) (.cons (.ite (.and (.cmp .ne (.var 1) (.gint 9 0)) (.cmp .ne (.var 1) (.gint 10 1))) (.cons (.bad) .nil) .nil) (.cons (.ret (.bin .bor (.bin .shl (.var 0) (.int 8)) (.var 1))) .nil))
noncomputable def b_make_ikey:Ss:=.cons (.ret (.bin .add (.bytesOf (.var 0)) (.call 10 (.cons (.call 13 (.cons (.var 1) (.cons (.var 2) .nil))) .nil)))) .nil
noncomputable def b_split_ikey:Ss:=.cons (.assign 1 (.call 16 (.cons (.var 0) .nil))) (.cons (.assign 2 (.call 17 (.cons (.var 0) .nil))) (.cons (.assign 3 (.bin .band (.var 2) (.int 255))) (.cons (.ite (.cmp .gt (.var 3) (.gint 10 1)) (.cons (.bad) .nil) .nil) (.cons (.ret (.tuple (.cons (.var 1) (.cons (.bin .shr (.var 2) (.int 8)) (.cons (.var 3) .nil))))) .nil))))
noncomputable def b_user_of:Ss:=.cons (.ite (.cmp .lt (.len (.var 0)) (.gint 11 8)) (.cons (.bad) .nil) .nil) (.cons (.ret (.bytesOf (.sliceTo (.var 0) (.bin .sub (.len (.var 0)) (.gint 11 8))))) .nil)
noncomputable def b_tag_of:Ss:=.cons (.ite (.cmp .lt (.len (.var 0)) (.gint 11 8)) (.cons (.bad) .nil) .nil) (.cons (.ret (.call 12 (.cons (.var 0) (.cons (.bin .sub (.len (.var 0)) (.gint 11 8)) .nil)))) .nil)
noncomputable def b_Order_compare:Ss:=.cons (.ite (.cmp .lt (.var 1) (.var 2)) (.cons (.ret (.neg 1)) .nil) .nil) (.cons (.ite (.cmp .gt (.var 1) (.var 2)) (.cons (.ret (.int 1)) .nil) .nil) (.cons (.ret (.int 0)) .nil))
noncomputable def b_InternalOrder_init:Ss:=.cons (.setattr (.var 0) 12 (.new 12 .nil)) .nil
noncomputable def b_InternalOrder_compare:Ss:=.cons (.assign 3 (.meth (.attr (.var 0) 12) 13 (.cons (.call 16 (.cons (.var 1) .nil)) (.cons (.call 16 (.cons (.var 2) .nil)) .nil)))) (.cons (.ite (.cmp .ne (.var 3) (.int 0)) (.cons (.ret (.var 3)) .nil) .nil) (.cons (.assign 4 (.call 17 (.cons (.var 1) .nil))) (.cons (.assign 5 (.call 17 (.cons (.var 2) .nil))) (.cons (.ite (.cmp .gt (.var 4) (.var 5)) (.cons (.ret (.neg 1)) .nil) .nil) (.cons (.ite (.cmp .lt (.var 4) (.var 5)) (.cons (.ret (.int 1)) .nil) .nil) (.cons (.ret (.int 0)) .nil))))))
noncomputable def b_Options_init:Ss:=.cons (.setattr (.var 0) 14 (.gint 15 1)) (.cons (.setattr (.var 0) 16 (.int 32768)) (.cons (.setattr (.var 0) 17 (.bool true)) (.cons (.setattr (.var 0) 18 (.bool true)) (.cons (.setattr (.var 0) 19 (.bool false)) (.cons (.setattr (.var 0) 20 (.int 4194304)) (.cons (.setattr (.var 0) 21 (.int 12)) (.cons (.setattr (.var 0) 22 (.tuple (.cons (.int 1) (.cons (.int 2) (.cons (.int 1) (.cons (.int 3) (.cons (.int 1) (.cons (.int 2) (.cons (.int 1) (.cons (.int 4) .nil)))))))))) (.cons (.setattr (.var 0) 23 (.int 4096)) (.cons (.setattr (.var 0) 24 (.int 16)) (.cons (.setattr (.var 0) 25 (.int 10)) (.cons (.setattr (.var 0) 26 (.int 11)) (.cons (.setattr (.var 0) 27 (.int 2097152)) (.cons (.setattr (.var 0) 28 (.int 7)) (.cons (.setattr (.var 0) 29 (.int 4)) (.cons (.setattr (.var 0) 30 (.int 12)) (.cons (.setattr (.var 0) 31 (.int 10485760)) (.cons (.setattr (.var 0) 32 (.int 10)) (.cons (.setattr (.var 0) 33 (.int 2)) (.cons (.setattr (.var 0) 34 (.int 10)) (.cons (.setattr (.var 0) 35 (.int 25)) .nil))))))))))))))))))))
noncomputable def b_check_heights:Ss:=.cons (.ite (.cmp .eq (.len (.var 1)) (.int 0)) (.cons (.bad) .nil) .nil) (.cons (.for 2 (.var 1) (.cons (.ite (.or (.cmp .lt (.var 2) (.int 1)) (.cmp .gt (.var 2) (.var 0))) (.cons (.bad) .nil) .nil) .nil)) .nil)
noncomputable def b_Tower_init:Ss:=.cons (.setattr (.var 0) 36 (.var 1)) (.cons (.setattr (.var 0) 37 (.var 2)) (.cons (.setattr (.var 0) 38 (.bin .mul (.list (.cons .none .nil)) (.var 3))) .nil))
noncomputable def b_SkipList_init:Ss:=.cons (.ite (.cmp .lt (.var 2) (.int 1)) (.cons (.bad) .nil) .nil) (.cons (.expr (.call 22 (.cons (.var 2) (.cons (.var 3) .nil)))) (.cons (.setattr (.var 0) 39 (.var 1)) (.cons (.setattr (.var 0) 22 (.var 3)) (.cons (.setattr (.var 0) 40 (.new 15 (.cons (.bytes []) (.cons (.bytes []) (.cons (.var 2) .nil))))) (.cons (.setattr (.var 0) 41 (.int 1)) (.cons (.setattr (.var 0) 42 (.int 0)) .nil))))))
noncomputable def b_SkipList_towers_before:Ss:=.cons (.assign 2 (.bin .mul (.list (.cons (.attr (.var 0) 40) .nil)) (.len (.attr (.attr (.var 0) 40) 38)))) (.cons (.assign 3 (.attr (.var 0) 40)) (.cons (.assign 4 (.bin .sub (.attr (.var 0) 41) (.int 1))) (.cons (.while (.cmp .ge (.var 4) (.int 0)) (.cons (.assign 5 (.idx (.attr (.var 3) 38) (.var 4))) (.cons (.ite (.and (.notNone (.var 5)) (.cmp .lt (.meth (.attr (.var 0) 39) 13 (.cons (.attr (.var 5) 36) (.cons (.var 1) .nil))) (.int 0))) (.cons (.assign 3 (.var 5)) .nil) (.cons (.setidx (.var 2) (.var 4) (.var 3)) (.cons (.aug 4 .sub (.int 1)) .nil))) .nil))) (.cons (.ret (.var 2)) .nil))))
noncomputable def b_SkipList_insert:Ss:=.cons (.assign 3 (.meth (.var 0) 43 (.cons (.var 1) .nil))) (.cons (.assign 4 (.idx (.attr (.idx (.var 3) (.int 0)) 38) (.int 0))) (.cons (.ite (.and (.notNone (.var 4)) (.cmp .eq (.meth (.attr (.var 0) 39) 13 (.cons (.attr (.var 4) 36) (.cons (.var 1) .nil))) (.int 0))) (.cons (.bad) .nil) .nil) (.cons (.assign 5 (.idx (.attr (.var 0) 22) (.bin .mod (.attr (.var 0) 42) (.len (.attr (.var 0) 22))))) (.cons (.assign 6 (.new 15 (.cons (.var 1) (.cons (.var 2) (.cons (.var 5) .nil))))) (.cons (.forR 7 (.int 0) (.var 5) (.int 1) (.cons (.setidx (.attr (.var 6) 38) (.var 7) (.idx (.attr (.idx (.var 3) (.var 7)) 38) (.var 7))) (.cons (.setidx (.attr (.idx (.var 3) (.var 7)) 38) (.var 7) (.var 6)) .nil))) (.cons (.ite (.cmp .gt (.var 5) (.attr (.var 0) 41)) (.cons (.setattr (.var 0) 41 (.var 5)) .nil) .nil) (.cons (.augattr (.var 0) 42 .add (.int 1)) .nil)))))))
noncomputable def b_SkipList_first_tower:Ss:=.cons (.ret (.idx (.attr (.attr (.var 0) 40) 38) (.int 0))) .nil
noncomputable def b_SkipList_seek_tower:Ss:=.cons (.ret (.idx (.attr (.idx (.meth (.var 0) 43 (.cons (.var 1) .nil)) (.int 0)) 38) (.int 0))) .nil
noncomputable def b_SkipList_before_tower:Ss:=.cons (.assign 2 .none) (.cons (.assign 3 (.attr (.var 0) 40)) (.cons (.assign 4 (.bin .sub (.attr (.var 0) 41) (.int 1))) (.cons (.while (.cmp .ge (.var 4) (.int 0)) (.cons (.assign 5 (.idx (.attr (.var 3) 38) (.var 4))) (.cons (.ite (.and (.notNone (.var 5)) (.cmp .lt (.meth (.attr (.var 0) 39) 13 (.cons (.attr (.var 5) 36) (.cons (.var 1) .nil))) (.int 0))) (.cons (.assign 3 (.var 5)) (.cons (.assign 2 (.var 5)) .nil)) (.cons (.aug 4 .sub (.int 1)) .nil)) .nil))) (.cons (.ret (.var 2)) .nil))))
noncomputable def b_SkipList_last_tower:Ss:=.cons (.assign 1 .none) (.cons (.assign 2 (.attr (.var 0) 40)) (.cons (.assign 3 (.bin .sub (.attr (.var 0) 41) (.int 1))) (.cons (.while (.cmp .ge (.var 3) (.int 0)) (.cons (.assign 4 (.idx (.attr (.var 2) 38) (.var 3))) (.cons (.ite (.notNone (.var 4)) (.cons (.assign 2 (.var 4)) (.cons (.assign 1 (.var 4)) .nil)) (.cons (.aug 3 .sub (.int 1)) .nil)) .nil))) (.cons (.ret (.var 1)) .nil))))
noncomputable def b_MemTable_init:Ss:=.cons (.setattr (.var 0) 39 (.new 13 .nil)) (.cons (.setattr (.var 0) 44 (.new 16 (.cons (.attr (.var 0) 39) (.cons (.attr (.var 1) 21) (.cons (.attr (.var 1) 22) .nil))))) (.cons (.setattr (.var 0) 45 (.int 0)) .nil))
noncomputable def b_MemTable_add:Ss:=.cons (.assign 5 (.bytes [])) (.cons (.ite (.cmp .eq (.var 2) (.gint 10 1)) (.cons (.assign 5 (.bytesOf (.var 4))) .nil) .nil) (.cons (.expr (.meth (.attr (.var 0) 44) 46 (.cons (.call 14 (.cons (.var 3) (.cons (.var 1) (.cons (.var 2) .nil)))) (.cons (.var 5) .nil)))) (.cons (.augattr (.var 0) 45 .add (.bin .add (.bin .add (.len (.var 3)) (.len (.var 5))) (.gint 47 13))) .nil)))
noncomputable def b_MemTable_get:Ss:=.cons (.assign 3 (.meth (.attr (.var 0) 44) 48 (.cons (.call 14 (.cons (.var 1) (.cons (.var 2) (.cons (.gint 49 1) .nil)))) .nil))) (.cons (.ite (.isNone (.var 3)) (.cons (.ret (.tuple (.cons (.bool false) (.cons (.gint 9 0) (.cons (.bytes []) .nil))))) .nil) .nil) (.cons (.unpack [4,5,6] (.call 15 (.cons (.attr (.var 3) 36) .nil))) (.cons (.ite (.cmp .ne (.var 4) (.var 1)) (.cons (.ret (.tuple (.cons (.bool false) (.cons (.gint 9 0) (.cons (.bytes []) .nil))))) .nil) .nil) (.cons (.ret (.tuple (.cons (.bool true) (.cons (.var 6) (.cons (.attr (.var 3) 37) .nil))))) .nil))))
noncomputable def b_MemTable_walk:Ss:=.cons (.ret (.new 18 (.cons (.var 0) .nil))) .nil
noncomputable def b_MemIter_init:Ss:=.cons (.setattr (.var 0) 44 (.attr (.var 1) 44)) (.cons (.setattr (.var 0) 5 .none) .nil)
noncomputable def b_MemIter_valid:Ss:=.cons (.ret (.notNone (.attr (.var 0) 5))) .nil
noncomputable def b_MemIter_seek_first:Ss:=.cons (.setattr (.var 0) 5 (.meth (.attr (.var 0) 44) 50 .nil)) .nil
noncomputable def b_MemIter_seek_last:Ss:=.cons (.setattr (.var 0) 5 (.meth (.attr (.var 0) 44) 51 .nil)) .nil
noncomputable def b_MemIter_seek:Ss:=.cons (.setattr (.var 0) 5 (.meth (.attr (.var 0) 44) 48 (.cons (.var 1) .nil))) .nil
noncomputable def b_MemIter_tower:Ss:=.cons (.ite (.isNone (.attr (.var 0) 5)) (.cons (.bad) .nil) .nil) (.cons (.ret (.attr (.var 0) 5)) .nil)
noncomputable def b_MemIter_step:Ss:=.cons (.setattr (.var 0) 5 (.idx (.attr (.meth (.var 0) 52 .nil) 38) (.int 0))) .nil
noncomputable def b_MemIter_back:Ss:=.cons (.setattr (.var 0) 5 (.meth (.attr (.var 0) 44) 53 (.cons (.attr (.meth (.var 0) 52 .nil) 36) .nil))) .nil
noncomputable def b_MemIter_key:Ss:=.cons (.ret (.attr (.meth (.var 0) 52 .nil) 36)) .nil
noncomputable def b_MemIter_value:Ss:=.cons (.ret (.attr (.meth (.var 0) 52 .nil) 37)) .nil
noncomputable def b_UserIter_init:Ss:=.cons (.setattr (.var 0) 54 (.var 1)) (.cons (.setattr (.var 0) 1 (.var 2)) (.cons (.setattr (.var 0) 55 (.var 4)) (.cons (.setattr (.var 0) 56 (.var 5)) (.cons (.setattr (.var 0) 57 (.gint 58 0)) (.cons (.setattr (.var 0) 59 (.bool false)) (.cons (.setattr (.var 0) 60 (.bytes [])) (.cons (.setattr (.var 0) 61 (.bytes [])) .nil)))))))
noncomputable def b_UserIter_valid:Ss:=.cons (.ret (.attr (.var 0) 59)) .nil
noncomputable def b_UserIter_need:Ss:=.cons (.ite (.not (.attr (.var 0) 59)) (.cons (.bad) .nil) .nil) .nil
noncomputable def b_UserIter_forget:Ss:=.cons (.setattr (.var 0) 59 (.bool false)) (.cons (.setattr (.var 0) 60 (.bytes [])) (.cons (.setattr (.var 0) 61 (.bytes [])) .nil))
noncomputable def b_UserIter_seek_first:Ss:=.cons (.setattr (.var 0) 57 (.gint 58 0)) (.cons (.expr (.meth (.var 0) 62 .nil)) (.cons (.ite (.isNone (.attr (.var 0) 55)) (.cons (.expr (.meth (.attr (.var 0) 54) 63 .nil)) .nil) (.cons (.expr (.meth (.attr (.var 0) 54) 64 (.cons (.call 14 (.cons (.attr (.var 0) 55) (.cons (.attr (.var 0) 1) (.cons (.gint 49 1) .nil)))) .nil))) .nil)) (.cons (.expr (.meth (.var 0) 65 (.cons (.bool false) .nil))) .nil)))
noncomputable def b_UserIter_seek:Ss:=.cons (.ite (.and (.notNone (.attr (.var 0) 55)) (.cmp .lt (.var 1) (.attr (.var 0) 55))) (.cons (.assign 1 (.attr (.var 0) 55)) .nil) .nil) (.cons (.setattr (.var 0) 57 (.gint 58 0)) (.cons (.expr (.meth (.var 0) 62 .nil)) (.cons (.expr (.meth (.attr (.var 0) 54) 64 (.cons (.call 14 (.cons (.var 1) (.cons (.attr (.var 0) 1) (.cons (.gint 49 1) .nil)))) .nil))) (.cons (.expr (.meth (.var 0) 65 (.cons (.bool false) .nil))) .nil))))
noncomputable def b_UserIter_seek_last:Ss:=.cons (.setattr (.var 0) 57 (.gint 66 1)) (.cons (.expr (.meth (.var 0) 62 .nil)) (.cons (.ite (.isNone (.attr (.var 0) 56)) (.cons (.expr (.meth (.attr (.var 0) 54) 67 .nil)) .nil) (.cons (.expr (.meth (.attr (.var 0) 54) 64 (.cons (.call 14 (.cons (.attr (.var 0) 56) (.cons (.gint 8 72057594037927935) (.cons (.gint 49 1) .nil)))) .nil))) (.cons (.ite (.meth (.attr (.var 0) 54) 68 .nil) (.cons (.expr (.meth (.attr (.var 0) 54) 69 .nil)) .nil) (.cons (.expr (.meth (.attr (.var 0) 54) 67 .nil)) .nil)) .nil))) (.cons (.expr (.meth (.var 0) 70 .nil)) .nil)))
noncomputable def b_UserIter_find_forward:Ss:=.cons (.while (.meth (.attr (.var 0) 54) 68 .nil) (.cons (.unpack [2,3,4] (.call 15 (.cons (.meth (.attr (.var 0) 54) 36 .nil) .nil))) (.cons (.ite (.and (.notNone (.attr (.var 0) 56)) (.cmp .ge (.var 2) (.attr (.var 0) 56))) (.cons (.brk) .nil) .nil) (.cons (.ite (.cmp .le (.var 3) (.attr (.var 0) 1)) (.cons (.ite (.cmp .eq (.var 4) (.gint 9 0)) (.cons (.ite (.or (.not (.var 1)) (.cmp .gt (.var 2) (.attr (.var 0) 60))) (.cons (.setattr (.var 0) 60 (.var 2)) (.cons (.assign 1 (.bool true)) .nil)) .nil) .nil) (.cons (.ite (.or (.not (.var 1)) (.cmp .gt (.var 2) (.attr (.var 0) 60))) (.cons (.expr (.meth (.var 0) 62 .nil)) (.cons (.setattr (.var 0) 59 (.bool true)) (.cons (.ret0) .nil))) .nil) .nil)) .nil) .nil) (.cons (.expr (.meth (.attr (.var 0) 54) 71 .nil)) .nil))))) (.cons (.expr (.meth (.var 0) 62 .nil)) .nil)
noncomputable def b_UserIter_find_backward:Ss:=.cons (.assign 1 (.bool false)) (.cons (.expr (.meth (.var 0) 62 .nil)) (.cons (.while (.meth (.attr (.var 0) 54) 68 .nil) (.cons (.unpack [2,3,4] (.call 15 (.cons (.meth (.attr (.var 0) 54) 36 .nil) .nil))) (.cons (.ite (.and (.notNone (.attr (.var 0) 55)) (.cmp .lt (.var 2) (.attr (.var 0) 55))) (.cons (.brk) .nil) .nil) (.cons (.ite (.cmp .le (.var 3) (.attr (.var 0) 1)) (.cons (.ite (.and (.var 1) (.cmp .lt (.var 2) (.attr (.var 0) 60))) (.cons (.brk) .nil) .nil) (.cons (.ite (.cmp .eq (.var 4) (.gint 9 0)) (.cons (.assign 1 (.bool false)) (.cons (.expr (.meth (.var 0) 62 .nil)) .nil)) (.cons (.assign 1 (.bool true)) (.cons (.setattr (.var 0) 60 (.var 2)) (.cons (.setattr (.var 0) 61 (.meth (.attr (.var 0) 54) 37 .nil)) .nil)))) .nil)) .nil) (.cons (.expr (.meth (.attr (.var 0) 54) 69 .nil)) .nil))))) (.cons (.setattr (.var 0) 59 (.var 1)) (.cons (.setattr (.var 0) 57 (.gint 66 1)) .nil))))
noncomputable def b_UserIter_step:Ss:=.cons (.expr (.meth (.var 0) 72 .nil)) (.cons (.setattr (.var 0) 59 (.bool false)) (.cons (.ite (.cmp .eq (.attr (.var 0) 57) (.gint 66 1)) (.cons (.setattr (.var 0) 57 (.gint 58 0)) (.cons (.ite (.meth (.attr (.var 0) 54) 68 .nil) (.cons (.expr (.meth (.attr (.var 0) 54) 71 .nil)) .nil) (.cons (.expr (.meth (.attr (.var 0) 54) 63 .nil)) .nil)) .nil)) (.cons (.setattr (.var 0) 60 (.call 16 (.cons (.meth (.attr (.var 0) 54) 36 .nil) .nil))) (.cons (.expr (.meth (.attr (.var 0) 54) 71 .nil)) .nil))) (.cons (.expr (.meth (.var 0) 65 (.cons (.bool true) .nil))) .nil)))
noncomputable def b_UserIter_back:Ss:=.cons (.expr (.meth (.var 0) 72 .nil)) (.cons (.setattr (.var 0) 59 (.bool false)) (.cons (.ite (.cmp .eq (.attr (.var 0) 57) (.gint 58 0)) (.cons (.assign 1 (.call 16 (.cons (.meth (.attr (.var 0) 54) 36 .nil) .nil))) (.cons (.expr (.meth (.attr (.var 0) 54) 69 .nil)) (.cons (.while (.and (.meth (.attr (.var 0) 54) 68 .nil) (.cmp .ge (.call 16 (.cons (.meth (.attr (.var 0) 54) 36 .nil) .nil)) (.var 1))) (.cons (.expr (.meth (.attr (.var 0) 54) 69 .nil)) .nil)) .nil))) .nil) (.cons (.expr (.meth (.var 0) 70 .nil)) .nil)))
noncomputable def b_UserIter_key:Ss:=.cons (.expr (.meth (.var 0) 72 .nil)) (.cons (.ite (.cmp .eq (.attr (.var 0) 57) (.gint 66 1)) (.cons (.ret (.attr (.var 0) 60)) .nil) .nil) (.cons (.ret (.call 16 (.cons (.meth (.attr (.var 0) 54) 36 .nil) .nil))) .nil))
noncomputable def b_UserIter_value:Ss:=.cons (.expr (.meth (.var 0) 72 .nil)) (.cons (.ite (.cmp .eq (.attr (.var 0) 57) (.gint 66 1)) (.cons (.ret (.attr (.var 0) 61)) .nil) .nil) (.cons (.ret (.meth (.attr (.var 0) 54) 37 .nil)) .nil))
noncomputable def b_law_draw:Ss:=.cons (.ret (.bin .add (.idx (.var 0) (.bin .mod (.var 1) (.len (.var 0)))) (.bin .mul (.int 7919) (.bin .fdiv (.var 1) (.len (.var 0)))))) .nil
noncomputable def b_law_keys:Ss:=.cons (.ret (.list (.cons (.bytes [107]) (.cons (.bytes [107,0]) (.cons (.bytes []) .nil))))) .nil
noncomputable def b_law_write:Ss:=.cons (.assign 2 (.idx (.call 59 .nil) (.bin .mod (.var 1) (.int 3)))) (.cons (.assign 3 (.bin .add (.len (.key (.var 0) 73)) (.int 1))) (.cons (.assign 4 .none) (.cons (.ite (.cmp .lt (.bin .mod (.bin .fdiv (.var 1) (.int 3)) (.int 3)) (.int 2)) (.cons (.assign 4 (.bin .mul (.bytesOf (.list (.cons (.bin .add (.int 64) (.var 3)) .nil))) (.bin .add (.int 1) (.bin .mod (.bin .fdiv (.var 1) (.int 3)) (.int 3))))) (.cons (.expr (.meth (.key (.var 0) 74) 75 (.cons (.bin .add (.key (.var 0) 76) (.var 3)) (.cons (.int 1) (.cons (.var 2) (.cons (.var 4) .nil)))))) .nil)) (.cons (.expr (.meth (.key (.var 0) 74) 75 (.cons (.bin .add (.key (.var 0) 76) (.var 3)) (.cons (.int 0) (.cons (.var 2) (.cons (.bytes []) .nil)))))) .nil)) (.cons (.expr (.append (.key (.var 0) 73) (.tuple (.cons (.var 2) (.cons (.var 4) .nil))))) .nil))))
noncomputable def b_law_at:Ss:=.cons (.assign 3 (.tuple (.cons (.bool false) (.cons (.int 0) (.cons (.bytes []) .nil))))) (.cons (.forT [4,5] (.sliceTo (.key (.var 0) 73) (.bin .sub (.var 2) (.key (.var 0) 76))) (.cons (.ite (.and (.cmp .eq (.var 4) (.var 1)) (.isNone (.var 5))) (.cons (.assign 3 (.tuple (.cons (.bool true) (.cons (.int 0) (.cons (.bytes []) .nil))))) .nil) (.cons (.ite (.cmp .eq (.var 4) (.var 1)) (.cons (.assign 3 (.tuple (.cons (.bool true) (.cons (.int 1) (.cons (.var 5) .nil))))) .nil) .nil) .nil)) .nil)) (.cons (.ret (.var 3)) .nil))
noncomputable def b_law_add:Ss:=.cons (.assign 2 (.key (.var 0) 77)) (.cons (.assign 3 (.or (.cmp .eq (.len (.var 2)) (.int 0)) (.cmp .le (.idx (.key (.var 0) 78) (.idx (.var 2) (.neg 1))) (.var 1)))) (.cons (.tryA 4 (.key (.var 0) 79) 75 (.cons (.var 1) .nil) 8 (some (.not (.var 3))) 0) (.cons (.expr (.append (.var 2) (.len (.key (.var 0) 3)))) (.cons (.expr (.append (.key (.var 0) 3) (.var 4))) (.cons (.expr (.append (.key (.var 0) 78) (.var 1))) (.cons (.ret (.var 3)) .nil))))))
noncomputable def b_law_burst:Ss:=.cons (.assign 3 (.bin .mod (.bin .fdiv (.var 1) (.int 9)) (.var 2))) (.cons (.forR 4 (.int 0) (.var 2) (.int 1) (.cons (.ite (.cmp .eq (.var 4) (.var 3)) (.cons (.expr (.call 60 (.cons (.var 0) (.cons (.var 1) .nil)))) .nil) .nil) (.cons (.ite (.not (.call 62 (.cons (.var 0) (.cons (.bin .add (.key (.var 0) 76) (.len (.key (.var 0) 73))) .nil)))) (.cons (.ret (.bool false)) .nil) .nil) .nil))) (.cons (.ret (.bool true)) .nil))
noncomputable def b_law_drop:Ss:=.cons (.assign 2 (.isIn (.var 1) (.key (.var 0) 77))) (.cons (.tryE (.key (.var 0) 79) 80 (.cons (.idx (.key (.var 0) 3) (.var 1)) .nil) 8 (.not (.var 2))) (.cons (.ite (.var 2) (.cons (.expr (.remove (.key (.var 0) 77) (.var 1))) .nil) .nil) (.cons (.ret (.var 2)) .nil)))
noncomputable def b_law_placed:Ss:=.cons (.assign 2 (.neg 1)) (.cons (.ite (.isIn (.var 1) (.key (.var 0) 77)) (.cons (.assign 2 (.index (.key (.var 0) 77) (.var 1))) .nil) .nil) (.cons (.ret (.cmp .eq (.meth (.key (.var 0) 79) 5 (.cons (.idx (.key (.var 0) 3) (.var 1)) .nil)) (.var 2))) .nil))
noncomputable def b_law_agrees:Ss:=.cons (.assign 2 (.key (.var 0) 79)) (.cons (.assign 3 (.key (.var 0) 77)) (.cons (.assign 4 (.len (.key (.var 0) 3))) (.cons (.assign 5 .none) (.cons (.assign 6 (.list (.cons (.bin .mod (.var 1) (.var 4)) (.cons (.bin .mod (.bin .fdiv (.var 1) (.int 7)) (.var 4)) (.cons (.bin .sub (.var 4) (.int 1)) .nil))))) (.cons (.ite (.cmp .gt (.len (.var 3)) (.int 0)) (.cons (.assign 5 (.idx (.key (.var 0) 78) (.idx (.var 3) (.int 0)))) (.cons (.assign 6 (.bin .add (.var 6) (.list (.cons (.idx (.var 3) (.int 0)) (.cons (.idx (.var 3) (.bin .mod (.bin .fdiv (.var 1) (.int 3)) (.len (.var 3)))) (.cons (.idx (.var 3) (.neg 1)) .nil)))))) .nil)) .nil) (.cons (.tryA 7 (.var 2) 81 .nil 4 Option.none 7) (.cons (.ite (.or (.cmp .ne (.meth (.var 2) 82 .nil) (.len (.var 3))) (.cmp .ne (.var 7) (.var 5))) (.cons (.ret (.bool false)) .nil) .nil) (.cons (.for 8 (.var 6) (.cons (.ite (.not (.call 65 (.cons (.var 0) (.cons (.var 8) .nil)))) (.cons (.ret (.bool false)) .nil) .nil) .nil)) (.cons (.for 8 (.tuple (.cons (.idx (.var 6) (.bin .mod (.bin .fdiv (.var 1) (.int 11)) (.int 3))) (.cons (.idx (.var 6) (.bin .fdiv (.len (.var 6)) (.int 2))) .nil))) (.cons (.ite (.cmp .ne (.meth (.var 2) 83 (.cons (.idx (.key (.var 0) 3) (.var 8)) .nil)) (.isIn (.var 8) (.var 3))) (.cons (.ret (.bool false)) .nil) .nil) .nil)) (.cons (.ret (.bool true)) .nil))))))))))
noncomputable def b_law_several:Ss:=.cons (.cassign 3 (.key (.cvar 0) 77)) (.cons (.ite (.cmp .eq (.var 1) (.int 4)) (.cons (.assign 4 (.bin .mul (.max (.int 0) (.bin .sub (.len (.cvar 3)) (.int 24))) (.bin .mod (.bin .fdiv (.var 2) (.int 2)) (.int 2)))) (.cons (.assignComp 6 (.compR (.idx (.cvar 3) (.var 5)) 5 [0,3] (.bin .add (.var 4) (.bin .mod (.var 2) (.int 2))) (.min (.len (.cvar 3)) (.bin .add (.var 4) (.int 24))) (.int 2))) (.cons (.ret (.all (.comp (.call 64 (.cons (.cvar 0) (.cons (.var 7) .nil))) 7 [0,3] (.var 6)))) .nil))) .nil) (.cons (.forR 8 (.int 0) (.bin .add (.int 1) (.bin .mod (.var 2) (.int 5))) (.int 1) (.cons (.ite (.not (.call 64 (.cons (.cvar 0) (.cons (.idx (.cvar 3) (.idx (.list (.cons (.int 0) (.cons (.bin .fdiv (.len (.cvar 3)) (.int 2)) (.cons (.neg 1) .nil)))) (.bin .sub (.var 1) (.int 1)))) .nil)))) (.cons (.ret (.bool false)) .nil) .nil) .nil)) (.cons (.ret (.bool true)) .nil)))
noncomputable def b_law_act:Ss:=.cons (.assign 3 (.key (.var 0) 77)) (.cons (.assign 4 (.bool true)) (.cons (.ite (.cmp .lt (.len (.var 3)) (.int 13)) (.cons (.assign 4 (.call 63 (.cons (.var 0) (.cons (.var 2) (.cons (.int 14) .nil))))) .nil) .nil) (.cons (.ite (.cmp .eq (.var 1) (.int 0)) (.cons (.assign 4 (.and (.var 4) (.call 63 (.cons (.var 0) (.cons (.var 2) (.cons (.bin .add (.int 1) (.bin .mod (.bin .fdiv (.var 2) (.int 27)) (.int 9))) .nil)))))) .nil) (.cons (.ite (.cmp .lt (.var 1) (.int 5)) (.cons (.assign 4 (.and (.var 4) (.call 67 (.cons (.var 0) (.cons (.var 1) (.cons (.var 2) .nil)))))) .nil) (.cons (.ite (.cmp .eq (.var 1) (.int 5)) (.cons (.assign 5 (.idx (.var 3) (.bin .mod (.var 2) (.len (.var 3))))) (.cons (.assign 4 (.and (.var 4) (.and (.call 64 (.cons (.var 0) (.cons (.var 5) .nil))) (.and (.call 64 (.cons (.var 0) (.cons (.var 5) .nil))) (.call 64 (.cons (.var 0) (.cons (.bin .mod (.bin .fdiv (.var 2) (.int 7)) (.len (.key (.var 0) 3))) .nil))))))) .nil)) (.cons (.ite (.cmp .eq (.var 1) (.int 6)) (.cons (.expr (.meth (.key (.var 0) 79) 84 .nil)) (.cons (.while (.cmp .gt (.len (.var 3)) (.int 0)) (.cons (.expr (.pop (.var 3))) .nil)) (.cons (.assign 4 (.and (.var 4) (.and (.call 66 (.cons (.var 0) (.cons (.var 2) .nil))) (.call 64 (.cons (.var 0) (.cons (.bin .mod (.var 2) (.len (.key (.var 0) 3))) .nil)))))) (.cons (.ite (.cmp .eq (.bin .mod (.bin .fdiv (.var 2) (.int 2)) (.int 2)) (.int 0)) (.cons (.assign 4 (.and (.var 4) (.call 62 (.cons (.var 0) (.cons (.key (.var 0) 76) .nil))))) .nil) .nil) .nil)))) (.cons (.assign 6 (.idx (.key (.var 0) 78) (.idx (.var 3) (.neg 1)))) (.cons (.assign 4 (.and (.var 4) (.and (.call 62 (.cons (.var 0) (.cons (.bin .sub (.var 6) (.int 1)) .nil))) (.call 62 (.cons (.var 0) (.cons (.idx (.key (.var 0) 78) (.idx (.var 3) (.int 0))) .nil)))))) .nil))) .nil)) .nil)) .nil)) (.cons (.ret (.and (.var 4) (.call 66 (.cons (.var 0) (.cons (.var 2) .nil))))) .nil))))
noncomputable def b_law_view:Ss:=.cons (.assign 2 (.list .nil)) (.cons (.for 3 (.sortedKeys (.call 59 .nil)) (.cons (.unpack [4,5,6] (.call 61 (.cons (.var 0) (.cons (.var 3) (.cons (.idx (.key (.var 0) 78) (.var 1)) .nil))))) (.cons (.ite (.cmp .eq (.var 5) (.int 1)) (.cons (.expr (.append (.var 2) (.tuple (.cons (.var 3) (.cons (.var 6) .nil))))) .nil) .nil) .nil))) (.cons (.assign 7 (.key (.var 0) 74)) (.cons (.assign 8 (.new 19 (.cons (.meth (.var 7) 85 .nil) (.cons (.attr (.idx (.key (.var 0) 3) (.var 1)) 1) (.cons (.attr (.var 7) 39) (.cons .none (.cons .none .nil))))))) (.cons (.expr (.meth (.var 8) 63 .nil)) (.cons (.forT [3,6] (.var 2) (.cons (.ite (.or (.not (.meth (.var 8) 68 .nil)) (.or (.cmp .ne (.meth (.var 8) 36 .nil) (.var 3)) (.cmp .ne (.meth (.var 8) 37 .nil) (.var 6)))) (.cons (.ret (.bool false)) .nil) .nil) (.cons (.expr (.meth (.var 8) 71 .nil)) .nil))) (.cons (.ite (.meth (.var 8) 68 .nil) (.cons (.ret (.bool false)) .nil) .nil) (.cons (.expr (.meth (.var 8) 67 .nil)) (.cons (.forT [3,6] (.rev (.var 2)) (.cons (.ite (.or (.not (.meth (.var 8) 68 .nil)) (.or (.cmp .ne (.meth (.var 8) 36 .nil) (.var 3)) (.cmp .ne (.meth (.var 8) 37 .nil) (.var 6)))) (.cons (.ret (.bool false)) .nil) .nil) (.cons (.expr (.meth (.var 8) 69 .nil)) .nil))) (.cons (.ret (.not (.meth (.var 8) 68 .nil))) .nil)))))))))
noncomputable def b_law_close:Ss:=.cons (.assign 2 (.key (.var 0) 77)) (.cons (.ite (.and (.cmp .lt (.len (.var 2)) (.int 13)) (.not (.call 63 (.cons (.var 0) (.cons (.var 1) (.cons (.int 14) .nil)))))) (.cons (.ret (.bool false)) .nil) .nil) (.cons (.assign 3 (.bin .add (.int 1) (.bin .fdiv (.len (.key (.var 0) 3)) (.int 30)))) (.cons (.forR 4 (.bin .mod (.var 1) (.var 3)) (.len (.key (.var 0) 3)) (.var 3) (.cons (.ite (.or (.not (.call 65 (.cons (.var 0) (.cons (.var 4) .nil)))) (.cmp .ne (.attr (.idx (.key (.var 0) 3) (.var 4)) 1) (.idx (.key (.var 0) 78) (.var 4)))) (.cons (.ret (.bool false)) .nil) .nil) .nil)) (.cons (.forR 5 (.int 0) (.int 12) (.int 1) (.cons (.assign 4 (.idx (.var 2) (.bin .mod (.bin .add (.var 1) (.bin .fdiv (.bin .mul (.var 5) (.len (.var 2))) (.int 12))) (.len (.var 2))))) (.cons (.assign 6 (.idx (.call 59 .nil) (.bin .mod (.bin .add (.var 1) (.var 5)) (.int 3)))) (.cons (.ite (.cmp .ne (.meth (.key (.var 0) 74) 86 (.cons (.var 6) (.cons (.attr (.idx (.key (.var 0) 3) (.var 4)) 1) .nil))) (.call 61 (.cons (.var 0) (.cons (.var 6) (.cons (.idx (.key (.var 0) 78) (.var 4)) .nil))))) (.cons (.ret (.bool false)) .nil) .nil) .nil)))) (.cons (.ret (.call 69 (.cons (.var 0) (.cons (.idx (.var 2) (.bin .sub (.neg 1) (.bin .mod (.bin .fdiv (.var 1) (.int 3)) (.len (.var 2))))) .nil)))) .nil)))))
noncomputable def b_law:Ss:=.cons (.assignComp 2 (.comp (.bin .mod (.var 1) (.int 999983)) 1 [] (.sliceTo (.var 0) (.int 15)))) (.cons (.ite (.cmp .eq (.len (.var 2)) (.int 0)) (.cons (.assign 2 (.list (.cons (.int 0) .nil))) .nil) .nil) (.cons (.assign 3 (.call 58 (.cons (.var 2) (.cons (.int 0) .nil)))) (.cons (.assign 4 (.idx (.list (.cons (.int 0) (.cons (.int 250) (.cons (.int 4294967290) (.cons (.int 72057594037927900) .nil))))) (.bin .mod (.bin .fdiv (.var 3) (.int 40)) (.int 4)))) (.cons (.assign 5 (.dict [74,79,76,73,3,78,77] (.cons (.new 17 (.cons (.new 14 .nil) .nil)) (.cons (.new 10 .nil) (.cons (.var 4) (.cons (.list .nil) (.cons (.list .nil) (.cons (.list .nil) (.cons (.list .nil) .nil))))))))) (.cons (.forR 6 (.int 1) (.int 6) (.int 1) (.cons (.assign 7 (.call 58 (.cons (.var 2) (.cons (.var 6) .nil)))) (.cons (.assign 8 (.int 0)) (.cons (.ite (.and (.cmp .eq (.var 6) (.int 3)) (.cmp .eq (.bin .mod (.bin .fdiv (.var 3) (.int 160)) (.int 5)) (.int 4))) (.cons (.assign 8 (.int 220)) .nil) .nil) (.cons (.ite (.not (.call 63 (.cons (.var 5) (.cons (.var 7) (.cons (.bin .add (.bin .add (.int 8) (.bin .mod (.bin .fdiv (.var 7) (.int 162)) (.int 3))) (.var 8)) .nil))))) (.cons (.ret (.bool false)) .nil) .nil) .nil))))) (.cons (.ite (.not (.call 66 (.cons (.var 5) (.cons (.var 3) .nil)))) (.cons (.ret (.bool false)) .nil) .nil) (.cons (.forR 6 (.int 0) (.int 8) (.int 1) (.cons (.assign 9 (.bin .mod (.bin .add (.var 3) (.bin .mul (.var 6) (.bin .add (.int 1) (.bin .mul (.int 2) (.bin .mod (.bin .fdiv (.var 3) (.int 8)) (.int 4)))))) (.int 8))) (.cons (.ite (.not (.call 68 (.cons (.var 5) (.cons (.var 9) (.cons (.call 58 (.cons (.var 2) (.cons (.bin .add (.int 6) (.var 6)) .nil))) .nil))))) (.cons (.ret (.bool false)) .nil) .nil) .nil))) (.cons (.ret (.call 70 (.cons (.var 5) (.cons (.call 58 (.cons (.var 2) (.cons (.int 14) .nil))) .nil)))) .nil))))))))
noncomputable def theFns:List FDef:=[
 ⟨3,3,b_SnapMark_init,[]⟩,
 ⟨1,1,b_MarkList_init,[]⟩,
 ⟨1,1,b_MarkList_size,[]⟩,
 ⟨2,3,b_MarkList_add,[]⟩,
 ⟨2,6,b_MarkList_place,[]⟩,
 ⟨2,2,b_MarkList_holds,[]⟩,
 ⟨2,3,b_MarkList_drop,[]⟩,
 ⟨1,2,b_MarkList_drop_all,[]⟩,
 ⟨1,1,b_MarkList_smallest,[]⟩,
 ⟨1,1,b_put_fixed32,[]⟩,
 ⟨1,1,b_put_fixed64,[]⟩,
 ⟨2,2,b_read_fixed32,[]⟩,
 ⟨2,2,b_read_fixed64,[]⟩,
 ⟨2,2,b_pack_tag,[]⟩,
 ⟨3,3,b_make_ikey,[]⟩,
 ⟨1,4,b_split_ikey,[]⟩,
 ⟨1,1,b_user_of,[]⟩,
 ⟨1,1,b_tag_of,[]⟩,
 ⟨3,3,b_Order_compare,[]⟩,
 ⟨1,1,b_InternalOrder_init,[]⟩,
 ⟨3,6,b_InternalOrder_compare,[]⟩,
 ⟨1,1,b_Options_init,[]⟩,
 ⟨2,3,b_check_heights,[]⟩,
 ⟨4,4,b_Tower_init,[]⟩,
 ⟨4,4,b_SkipList_init,[]⟩,
 ⟨2,6,b_SkipList_towers_before,[]⟩,
 ⟨3,8,b_SkipList_insert,[]⟩,
 ⟨1,1,b_SkipList_first_tower,[]⟩,
 ⟨2,2,b_SkipList_seek_tower,[]⟩,
 ⟨2,6,b_SkipList_before_tower,[]⟩,
 ⟨1,5,b_SkipList_last_tower,[]⟩,
 ⟨2,2,b_MemTable_init,[]⟩,
 ⟨5,6,b_MemTable_add,[]⟩,
 ⟨3,7,b_MemTable_get,[]⟩,
 ⟨1,1,b_MemTable_walk,[]⟩,
 ⟨2,2,b_MemIter_init,[]⟩,
 ⟨1,1,b_MemIter_valid,[]⟩,
 ⟨1,1,b_MemIter_seek_first,[]⟩,
 ⟨1,1,b_MemIter_seek_last,[]⟩,
 ⟨2,2,b_MemIter_seek,[]⟩,
 ⟨1,1,b_MemIter_tower,[]⟩,
 ⟨1,1,b_MemIter_step,[]⟩,
 ⟨1,1,b_MemIter_back,[]⟩,
 ⟨1,1,b_MemIter_key,[]⟩,
 ⟨1,1,b_MemIter_value,[]⟩,
 ⟨6,6,b_UserIter_init,[]⟩,
 ⟨1,1,b_UserIter_valid,[]⟩,
 ⟨1,1,b_UserIter_need,[]⟩,
 ⟨1,1,b_UserIter_forget,[]⟩,
 ⟨1,1,b_UserIter_seek_first,[]⟩,
 ⟨2,2,b_UserIter_seek,[]⟩,
 ⟨1,1,b_UserIter_seek_last,[]⟩,
 ⟨2,5,b_UserIter_find_forward,[]⟩,
 ⟨1,5,b_UserIter_find_backward,[]⟩,
 ⟨1,1,b_UserIter_step,[]⟩,
 ⟨1,2,b_UserIter_back,[]⟩,
 ⟨1,1,b_UserIter_key,[]⟩,
 ⟨1,1,b_UserIter_value,[]⟩,
 ⟨2,2,b_law_draw,[]⟩,
 ⟨0,0,b_law_keys,[]⟩,
 ⟨2,5,b_law_write,[]⟩,
 ⟨3,6,b_law_at,[]⟩,
 ⟨2,5,b_law_add,[]⟩,
 ⟨3,5,b_law_burst,[]⟩,
 ⟨2,3,b_law_drop,[]⟩,
 ⟨2,3,b_law_placed,[]⟩,
 ⟨2,9,b_law_agrees,[]⟩,
 ⟨3,9,b_law_several,[0,3]⟩,
 ⟨3,7,b_law_act,[]⟩,
 ⟨2,9,b_law_view,[]⟩,
 ⟨2,7,b_law_close,[]⟩,
 ⟨1,10,b_law,[]⟩]
noncomputable def theFn (n:Nat):Option FDef:=theFns[n]?
noncomputable def theInits:List (Nat × Option Nat):=[(9,some 0),(10,some 1),(11,none),(12,none),(13,some 19),(14,some 21),(15,some 23),(16,some 24),(17,some 31),(18,some 35),(19,some 45)]
noncomputable def theInit (c:Nat):Option (Option Nat):=theInits.lookup c
noncomputable def theMeths:List ((Nat × Nat) × Nat):=[((10,82),2),((10,75),3),((10,5),4),((10,83),5),((10,80),6),((10,84),7),((10,81),8),((11,13),18),((12,13),18),((13,13),20),((16,43),25),((16,46),26),((16,50),27),((16,48),28),((16,53),29),((16,51),30),((17,75),32),((17,86),33),((17,85),34),((18,68),36),((18,63),37),((18,67),38),((18,64),39),((18,52),40),((18,71),41),((18,69),42),((18,36),43),((18,37),44),((19,68),46),((19,72),47),((19,62),48),((19,63),49),((19,64),50),((19,67),51),((19,65),52),((19,70),53),((19,71),54),((19,69),55),((19,36),56),((19,37),57)]
noncomputable def theMeth (c m:Nat):Option Nat:=theMeths.lookup (c,m)
noncomputable def theFlds:List (List Nat):=[[],[],[],[],[],[],[],[],[],[0,1,2],[3,4],[],[],[12],[14,16,17,18,19,20,21,22,23,24,25,26,27,28,29,30,31,32,33,34,35],[36,37,38],[39,22,40,41,42],[39,44,45],[44,5],[54,1,55,56,57,59,60,61]]
noncomputable def theFld (c n:Nat):Bool:=(theFlds.getD c []).contains n
noncomputable def thePrg:Prg:=⟨theFn,theInit,theMeth,theFld⟩
end
inductive Ex2 {α β:Type} (p:α→β→Prop):Prop where
 | mk (x0:α) (x1:β) (h:p x0 x1)
inductive Ex3 {α β γ:Type} (p:α→β→γ→Prop):Prop where
 | mk (x0:α) (x1:β) (x2:γ) (h:p x0 x1 x2)
inductive Ex4 {α β γ δ:Type} (p:α→β→γ→δ→Prop):Prop where
 | mk (x0:α) (x1:β) (x2:γ) (x3:δ) (h:p x0 x1 x2 x3)
inductive Ex5 {α β γ δ ε:Type} (p:α→β→γ→δ→ε→Prop):Prop where
 | mk (x0:α) (x1:β) (x2:γ) (x3:δ) (x4:ε) (h:p x0 x1 x2 x3 x4)
inductive Ex6 {α β γ δ ε ζ:Type} (p:α→β→γ→δ→ε→ζ→Prop):Prop where
 | mk (x0:α) (x1:β) (x2:γ) (x3:δ) (x4:ε) (x5:ζ) (h:p x0 x1 x2 x3 x4 x5)
inductive Ex7 {α β γ δ ε ζ η:Type} (p:α→β→γ→δ→ε→ζ→η→Prop):Prop where
 | mk (x0:α) (x1:β) (x2:γ) (x3:δ) (x4:ε) (x5:ζ) (x6:η) (h:p x0 x1 x2 x3 x4 x5 x6)
inductive Ex8 {α β γ δ ε ζ η θ:Type} (p:α→β→γ→δ→ε→ζ→η→θ→Prop):Prop where
 | mk (x0:α) (x1:β) (x2:γ) (x3:δ) (x4:ε) (x5:ζ) (x6:η) (x7:θ) (h:p x0 x1 x2 x3 x4 x5 x6 x7)
inductive Ex9 {α β γ δ ε ζ η θ ι:Type} (p:α→β→γ→δ→ε→ζ→η→θ→ι→Prop):Prop where
 | mk (x0:α) (x1:β) (x2:γ) (x3:δ) (x4:ε) (x5:ζ) (x6:η) (x7:θ) (x8:ι) (h:p x0 x1 x2 x3 x4 x5 x6 x7 x8)
inductive And3 (p0 p1 p2:Prop):Prop where
 | mk (h0:p0) (h1:p1) (h2:p2)
inductive And4 (p0 p1 p2 p3:Prop):Prop where
 | mk (h0:p0) (h1:p1) (h2:p2) (h3:p3)
inductive And5 (p0 p1 p2 p3 p4:Prop):Prop where
 | mk (h0:p0) (h1:p1) (h2:p2) (h3:p3) (h4:p4)
inductive And6 (p0 p1 p2 p3 p4 p5:Prop):Prop where
 | mk (h0:p0) (h1:p1) (h2:p2) (h3:p3) (h4:p4) (h5:p5)
inductive And7 (p0 p1 p2 p3 p4 p5 p6:Prop):Prop where
 | mk (h0:p0) (h1:p1) (h2:p2) (h3:p3) (h4:p4) (h5:p5) (h6:p6)
inductive And8 (p0 p1 p2 p3 p4 p5 p6 p7:Prop):Prop where
 | mk (h0:p0) (h1:p1) (h2:p2) (h3:p3) (h4:p4) (h5:p5) (h6:p6) (h7:p7)
end Mine
end
section
open PySem PySem.W PyProof.Rows
namespace Mine
inductive RO where
 | one (x:Addr) (o:Obj)
 | two (x dx:Addr) (o od:Obj)
 | gone (x:Addr)
noncomputable def RO.seg:RO→List (Addr × Obj)
 | .one x o=>[(x,o)]
 | .two x dx o od=>[(x,o),(dx,od)]
 | .gone _=>[]
noncomputable def RO.at:RO→Addr
 | .one x _=>x
 | .two x _ _ _=>x
 | .gone x=>x
noncomputable def led (R:List RO):List (Addr × Obj):=R.flatMap RO.seg
noncomputable def ads (R:List RO):List Addr:=R.map RO.at
theorem led_append (R S:List RO):led (R ++ S)=led R ++ led S:=List.flatMap_append
theorem ads_append (R S:List RO):ads (R ++ S)=ads R ++ ads S:=List.map_append
theorem led_one {R:List RO} {i:Nat} {x:Addr} {o:Obj} (h:R[i]?=some (.one x o)):(x,o) ∈ led R :=
 List.mem_flatMap.mpr ⟨_,List.mem_of_getElem? h,by simp [RO.seg]⟩
theorem led_two {R:List RO} {i:Nat} {x dx:Addr} {o od:Obj} (h:R[i]?=some (.two x dx o od)):(x,o) ∈ led R∧(dx,od) ∈ led R :=
 ⟨List.mem_flatMap.mpr ⟨_,List.mem_of_getElem? h,by simp [RO.seg]⟩,List.mem_flatMap.mpr ⟨_,List.mem_of_getElem? h,by simp [RO.seg]⟩⟩
theorem ads_get {R:List RO} {i:Nat} {r:RO} (h:R[i]?=some r):(ads R)[i]?=some r.at:=by simp [ads,h]
noncomputable def VR (φ:List Addr):V→Value→Prop
 | .none,v=>v = .none
 | .bool b,v=>v = .bool b
 | .int i,v=>∃ t,v = .int i t
 | .bytes b,v=>∃ t,v = .bytes b.toArray t
 | .ref i,v=>∃ a,φ[i]?=some a∧v = .ref a
noncomputable def VRs (φ:List Addr):List V→List Value→Prop
 | [],[]=>True
 | v :: l,u :: r=>VR φ v u∧VRs φ l r
 | _,_=>False
theorem VR.mono {φ ψ:List Addr} {v:V} {u:Value} (h:VR φ v u) (e:φ <+: ψ):VR ψ v u:=by
 induction v <;> try exact h
 obtain ⟨a,h1,h2⟩:=h
 obtain ⟨S,rfl⟩:=e
 exact ⟨a,by rw [List.getElem?_append_left (List.getElem?_eq_some_iff.mp h1).1];exact h1,h2⟩
theorem VRs.ind {φ:List Addr} {p:List V→List Value→Prop} (h0:p [] []) (h1:∀ v u l r,VR φ v u→VRs φ l r→p l r→p (v :: l) (u :: r)):∀ (l:List V) (r:List Value),VRs φ l r→p l r:=by
 intro l
 induction l with
 | nil=>intro r h;cases r with
  | nil=>exact h0
  | cons=>exact h.elim
 | cons v l ih=>intro r h;cases r with
  | nil=>exact h.elim
  | cons u r=>exact h1 v u l r h.1 h.2 (ih r h.2)
section
variable {φ ψ:List Addr} {l l':List V} {r r':List Value} {v:V} {u:Value}
theorem VRs.mono (e:φ <+: ψ) (h:VRs φ l r):VRs ψ l r:=VRs.ind (p:=VRs ψ) trivial (λ_ _ _ _ a _ q=>⟨a.mono e,q⟩) l r h
theorem VRs.length (h:VRs φ l r):l.length=r.length:=VRs.ind (p:=λl r=>l.length=r.length) rfl (λ_ _ _ _ _ _ q=>congrArg (· + 1) q) l r h
theorem VRs.get (h:VRs φ l r):∀ {i:Nat} {v:V},l[i]?=some v→∃ u,r[i]?=some u∧VR φ v u :=
 VRs.ind (p:=λl r=>∀ {i:Nat} {v:V},l[i]?=some v→∃ u,r[i]?=some u∧VR φ v u) (λe=>nomatch e) (λv u l r a _ q {i} {w} e=>by
  cases i with
  | zero=>cases e;exact ⟨u,rfl,a⟩
  | succ i=>exact q e) l r h
theorem VRs.append (h:VRs φ l r) (h':VRs φ l' r'):VRs φ (l ++ l') (r ++ r'):=VRs.ind (p:=λl r=>VRs φ (l ++ l') (r ++ r')) h' (λ_ _ _ _ a _ q=>⟨a,q⟩) l r h
theorem VRs.set (hv:VR φ v u) (h:VRs φ l r):∀ i,VRs φ (l.set i v) (r.set i u):=VRs.ind (p:=λl r=>∀ i,VRs φ (l.set i v) (r.set i u)) (λ_=>trivial) (λ_ _ _ _ a b q i=>by
 cases i with
 | zero=>exact ⟨hv,b⟩
 | succ i=>exact ⟨a,q i⟩) l r h
theorem VRs.eraseIdx (h:VRs φ l r):∀ i,VRs φ (l.eraseIdx i) (r.eraseIdx i):=VRs.ind (p:=λl r=>∀ i,VRs φ (l.eraseIdx i) (r.eraseIdx i)) (λ_=>trivial) (λ_ _ _ _ a b q i=>by
 cases i with
 | zero=>exact b
 | succ i=>exact ⟨a,q i⟩) l r h
theorem VRs.take (h:VRs φ l r):∀ i,VRs φ (l.take i) (r.take i):=VRs.ind (p:=λl r=>∀ i,VRs φ (l.take i) (r.take i)) (λi=>by induction i <;> trivial) (λ_ _ _ _ a b q i=>by
 cases i with
 | zero=>trivial
 | succ i=>exact ⟨a,q i⟩) l r h
theorem VRs.reverse (h:VRs φ l r):VRs φ l.reverse r.reverse:=VRs.ind (p:=λl r=>VRs φ l.reverse r.reverse) trivial (λ_ _ _ _ a _ q=>by rw [List.reverse_cons,List.reverse_cons];exact q.append ⟨a,trivial⟩) l r h
end
theorem VRs.replicate {φ:List Addr} {v:V} {u:Value} (h:VR φ v u):∀ n,VRs φ (List.replicate n v) (List.replicate n u)
 | 0=>trivial
 | n + 1=>⟨h,VRs.replicate h n⟩
structure CA where
 cls:Nat→Addr
 fr:Addr→Option Data
instance:CoeFun CA (λ_=>Nat→Addr):=⟨CA.cls⟩
section
variable (P:Params) (nm:Nat→Str) (ca:CA)
noncomputable def FR (φ:List Addr):List (Nat × V)→List DictEntry→Prop
 | [],[]=>True
 | (n,v) :: fs,e :: es=>n < 100∧(∃ t,e.key = .str (nm n) t)∧e.hash=PyData.keyHash P (nm n)∧VR φ v e.val∧FR φ fs es
 | _,_=>False
noncomputable abbrev tupOfV (vs:Array Value) (n:Nat):Obj:={ cls:=.type "tuple",data:=.seq vs n }
noncomputable def OR (φ:List Addr):O→RO→Prop
 | .list l,r=>Ex3 λx vs n=>r = .one x (listOf vs.toArray n)∧VRs φ l vs
 | .tuple l,r=>Ex3 λx vs n=>r = .one x (tupOfV vs.toArray n)∧VRs φ l vs
 | .dict fs,r=>Ex3 λx es n=>r = .one x (dictOf es n)∧FR P nm φ fs es
 | .inst c fs,r=>Ex4 λx dx es n=>r = .two x dx (instObj (ca c) dx) (dictOf es n)∧FR P nm φ fs es
 | .cell Option.none,r=>Ex2 λx o=>r = .one x o∧o.data = .cell Option.none
 | .cell (some v),r=>Ex3 λx o u=>And3 (r = .one x o) (o.data = .cell (some u)) (VR φ v u)
 | .frame,r=>(∃ x,r = .gone x)∨Ex2 λx o=>And3 (r = .one x o) ((Ex2 λes n=>o.data = .dict es n)) (ca.fr x=some o.data)
variable {P nm ca}
theorem FR.ind {φ:List Addr} {p:List (Nat × V)→List DictEntry→Prop} (h0:p [] []) (h1:∀ n v fs e es,n < 100→(∃ t,e.key = .str (nm n) t)→e.hash=PyData.keyHash P (nm n)→VR φ v e.val→FR P nm φ fs es→p fs es→p ((n,v) :: fs) (e :: es)):∀ (fs:List (Nat × V)) (es:List DictEntry),FR P nm φ fs es→p fs es:=by
 intro fs
 induction fs with
 | nil=>intro es h;cases es with
  | nil=>exact h0
  | cons=>exact h.elim
 | cons f fs ih=>intro es h;cases es with
  | nil=>exact h.elim
  | cons e es=>exact h1 f.1 f.2 fs e es h.1 h.2.1 h.2.2.1 h.2.2.2.1 h.2.2.2.2 (ih es h.2.2.2.2)
theorem FR.mono {φ ψ:List Addr} (e:φ <+: ψ) {fs:List (Nat × V)} {es:List DictEntry} (h:FR P nm φ fs es):FR P nm ψ fs es:=FR.ind (p:=FR P nm ψ) trivial (λ_ _ _ _ _ a b c d _ q=>⟨a,b,c,d.mono e,q⟩) fs es h
theorem FR.length {φ:List Addr} {fs:List (Nat × V)} {es:List DictEntry} (h:FR P nm φ fs es):fs.length=es.length:=FR.ind (p:=λfs es=>fs.length=es.length) rfl (λ_ _ _ _ _ _ _ _ _ _ q=>congrArg (· + 1) q) fs es h
theorem OR.mono {φ ψ:List Addr} (e:φ <+: ψ) {o:O} {r:RO} (h:OR P nm ca φ o r):OR P nm ca ψ o r:=by
 cases o with
 | list l=>obtain ⟨x,vs,n,a,b⟩:=h;exact ⟨x,vs,n,a,b.mono e⟩
 | tuple l=>obtain ⟨x,vs,n,a,b⟩:=h;exact ⟨x,vs,n,a,b.mono e⟩
 | dict fs=>obtain ⟨x,es,n,a,b⟩:=h;exact ⟨x,es,n,a,b.mono e⟩
 | inst c fs=>obtain ⟨x,dx,es,n,a,b⟩:=h;exact ⟨x,dx,es,n,a,b.mono e⟩
 | cell v =>
  cases v with
  | none=>exact h
  | some v=>obtain ⟨x,o,u,a,c,b⟩:=h;exact ⟨x,o,u,a,c,b.mono e⟩
 | frame=>exact h
end
structure HR (P:Params) (nm:Nat→Str) (ca:CA) (R:List RO) (H:Hp):Prop where
 len:R.length=H.length
 obj:∀ (i:Nat) (o:O) (r:RO),H[i]?=some o→R[i]?=some r→OR P nm ca (ads R) o r
 fr:∀ (x:Addr) (d:Data),ca.fr x=some d→Ex2 fun (i:Nat) (o:Obj)=>And3 (R[i]?=some (.one x o)) (H[i]?=some .frame) (o.data=d)
section
variable {P:Params} {nm:Nat→Str} {ca:CA} {R:List RO} {H:Hp}
theorem HR.get (h:HR P nm ca R H) {i:Nat} {o:O} (e:H[i]?=some o):∃ r,R[i]?=some r∧OR P nm ca (ads R) o r:=by
 have hi:i < R.length:=by rw [h.len];exact (List.getElem?_eq_some_iff.mp e).1
 exact ⟨R[i],by simp [hi],h.obj i o _ e (by simp [hi])⟩
theorem HR.push (h:HR P nm ca R H) {o:O} {r:RO} (e:OR P nm ca (ads R ++ [r.at]) o r):HR P nm ca (R ++ [r]) (H ++ [o]):=by
 refine ⟨by simp [h.len],λi o' r' h1 h2=>?_,λx d hx=>?_⟩
 rotate_left
 ·obtain ⟨i,o',h1,h2,h3⟩:=h.fr x d hx
  exact ⟨i,o',by rw [List.getElem?_append_left (List.getElem?_eq_some_iff.mp h1).1];exact h1,by rw [List.getElem?_append_left (List.getElem?_eq_some_iff.mp h2).1];exact h2,h3⟩
 have ep:ads R <+: ads (R ++ [r]):=by rw [ads_append];exact List.prefix_append ..
 rw [List.getElem?_append] at h1 h2
 rw [h.len] at h2
 split at h1
 ·rename_i hi
  rw [if_pos hi] at h2
  exact (h.obj i o' r' h1 h2).mono ep
 ·rename_i hi
  rw [if_neg hi] at h2
  have:i - H.length=0:=by
   rcases Nat.eq_zero_or_pos (i - H.length) with z | z
   ·exact z
   ·rw [List.getElem?_eq_none (by simp only [List.length_cons,List.length_nil];assumption)] at h1;cases h1
  rw [this] at h1 h2
  cases h1;cases h2
  rw [ads_append];exact e
theorem ads_set {i:Nat} {r r':RO} (h:R[i]?=some r) (e:r'.at=r.at):ads (R.set i r')=ads R:=by
 unfold ads
 rw [List.map_set,e]
 refine List.ext_getElem? λj=>?_
 rw [List.getElem?_set]
 split
 ·rename_i hij
  subst hij
  split
  ·simp [h]
  ·rename_i hl
   simp at hl
   simp [List.getElem?_eq_none hl]
 ·rfl
theorem HR.set (h:HR P nm ca R H) {i:Nat} {o:O} {r r':RO} (hr:R[i]?=some r) (e:r'.at=r.at) (ho:OR P nm ca (ads R) o r') (hH:H[i]? ≠ some .frame):HR P nm ca (R.set i r') (H.set i o):=by
 refine ⟨by simp [h.len],λj o' q h1 h2=>?_,λx d hx=>?_⟩
 rotate_left
 ·obtain ⟨j,o',h1,h2,h3⟩:=h.fr x d hx
  have:i ≠ j:=λq=>hH (q ▸ h2)
  exact ⟨j,o',by rw [List.getElem?_set_ne this];exact h1,by rw [List.getElem?_set_ne this];exact h2,h3⟩
 rw [ads_set hr e]
 rw [List.getElem?_set] at h1 h2
 split at h1
 ·rename_i hij
  subst hij
  rw [if_pos rfl] at h2
  split at h1
  ·cases h1
   split at h2
   ·cases h2;exact ho
   ·cases h2
  ·cases h1
 ·rename_i hij
  rw [if_neg hij] at h2
  exact h.obj j o' q h1 h2
end
theorem getElem?_split {α:Type} {l:List α} {i:Nat} {a:α} (h:l[i]?=some a):Ex2 λp q=>l=p ++ a :: q∧p.length=i:=by
 obtain ⟨hi,e⟩:=List.getElem?_eq_some_iff.mp h
 exact ⟨l.take i,l.drop (i + 1),by rw [← e];simp,by simp;lia⟩
theorem set_split {α:Type} (p q:List α) (a b:α):(p ++ a :: q).set p.length b=p ++ b :: q:=by simp
theorem nodup_apart {l r:List (Addr × Obj)} {x:Addr} {o:Obj} (h:((l ++ (x,o) :: r).map Prod.fst).Nodup):(∀ p ∈ l,p.1 ≠ x)∧∀ p ∈ r,p.1 ≠ x:=by
 rw [List.map_append,List.map_cons,List.nodup_append] at h
 obtain ⟨_,h2,h3⟩:=h
 refine ⟨λp hp e=>?_,λp hp e=>?_⟩
 ·exact h3 p.1 (List.mem_map_of_mem hp) x (.head _) e
 ·exact (List.nodup_cons.mp h2).1 (by show x ∈ _;rw [← e];exact List.mem_map_of_mem (f:=Prod.fst) hp)
theorem upd_of {l r:List (Addr × Obj)} {x:Addr} {o o':Obj}:(∀ p ∈ l,p.1 ≠ x)→(∀ p ∈ r,p.1 ≠ x)→Upd x o o' (l ++ (x,o) :: r) (l ++ (x,o') :: r):=by
 induction l with
 | nil=>intro _ h2;exact .head h2
 | cons p l ih=>intro h1 h2;exact .tail (h1 p (.head _)) (ih (λq hq=>h1 q (.tail _ hq)) h2)
theorem upd_one {R:List RO} {X:List (Addr × Obj)} {i:Nat} {x:Addr} {o o':Obj} (h:R[i]?=some (.one x o)) (nd:((led R ++ X).map Prod.fst).Nodup) :
  Upd x o o' (led R ++ X) (led (R.set i (.one x o')) ++ X)∧((led (R.set i (.one x o')) ++ X).map Prod.fst)=(led R ++ X).map Prod.fst:=by
 obtain ⟨p,q,rfl,rfl⟩:=getElem?_split h
 rw [set_split]
 have e:∀ o,led (p ++ .one x o :: q) ++ X=led p ++ (x,o) :: (led q ++ X):=λo=>by
  rw [led_append];simp [led,RO.seg]
 rw [e] at nd ⊢
 rw [e]
 obtain ⟨a,b⟩:=nodup_apart nd
 exact ⟨upd_of a b,by simp⟩
theorem upd_two {R:List RO} {X:List (Addr × Obj)} {i:Nat} {x dx:Addr} {o od od':Obj} (h:R[i]?=some (.two x dx o od)) (nd:((led R ++ X).map Prod.fst).Nodup) :
  Upd dx od od' (led R ++ X) (led (R.set i (.two x dx o od')) ++ X)∧((led (R.set i (.two x dx o od')) ++ X).map Prod.fst)=(led R ++ X).map Prod.fst:=by
 obtain ⟨p,q,rfl,rfl⟩:=getElem?_split h
 rw [set_split]
 have e:∀ o',led (p ++ .two x dx o o' :: q) ++ X=(led p ++ [(x,o)]) ++ (dx,o') :: (led q ++ X):=λo=>by
  rw [led_append];simp [led,RO.seg]
 rw [e] at nd ⊢
 rw [e]
 obtain ⟨a,b⟩:=nodup_apart nd
 exact ⟨upd_of a b,by simp⟩
end Mine
end
section
open PySem PySem.W PyProof.Rows PySem.Calls
set_option maxRecDepth 10000
namespace Mine
structure Tb where
 nm:Nat→Str
 sn:Nat→Str
 names:List (Str × NameKind)
 gi:Str→Option Int
 fn:Nat→Option Str
 cl:Nat→Option Str
 ex:Nat→Option Str
 top:Bool
noncomputable def Tb.loc (T:Tb) (x:Nat) (id:Str):Bool:=id == T.sn x && T.names.lookup id == some .local && !(id == ("__debug__":Str))
noncomputable def Tb.cel (T:Tb) (x:Nat) (id:Str):Bool:=id == T.sn x && T.names.lookup id == some .cell && !(id == ("__debug__":Str))
noncomputable def Tb.glb (T:Tb) (id:Str):Bool:=T.names.lookup id == some .globalImplicit && !(id == ("__debug__":Str))
noncomputable def bopOf:Bop→Operator
 | .add=>.Add | .sub=>.Sub | .mul=>.Mult | .fdiv=>.FloorDiv | .mod=>.Mod | .band=>.BitAnd | .bor=>.BitOr | .shl=>.LShift | .shr=>.RShift
noncomputable def copOf:Cop→CmpOp
 | .eq=>.Eq | .ne=>.NotEq | .lt=>.Lt | .le=>.LtE | .gt=>.Gt | .ge=>.GtE
noncomputable def superName (f:PySem.Expr):Bool:=PySem.Expr.casesOn f (λ_ _ _=>false) (λ_ _ _=>false) (λ_ _ _ _=>false) (λ_ _ _=>false) (λ_ _ _ _=>false) (λ_ _ _ _=>false) (λ_ _ _=>false) (λ_ _ _=>false) (λ_ _ _ _=>false) (λ_ _ _ _=>false) (λ_ _ _ _ _=>false) (λ_ _ _ _=>false) (λ_ _=>false) (λ_ _=>false) (λ_ _=>false) (λ_ _ _ _=>false) (λ_ _ _ _=>false) (λ_ _ _ _=>false) (λ_ _=>false) (λ_ _ _=>false) (λ_ _ _=>false) (λ_ _ _=>false) (λ_ _=>false) (λid _=>id == ("super":Str)) (λ_ _=>false) (λ_ _ _=>false) (λ_ _ _ _=>false)
noncomputable def superLike (o:PySem.Expr):Bool:=PySem.Expr.casesOn o (λ_ _ _=>false) (λ_ _ _=>false) (λ_ _ _ _=>false) (λ_ _ _=>false) (λ_ _ _ _=>false) (λ_ _ _ _=>false) (λ_ _ _=>false) (λ_ _ _=>false) (λ_ _ _ _=>false) (λ_ _ _ _=>false) (λ_ _ _ _ _=>false) (λ_ _ _ _=>false) (λ_ _=>false) (λ_ _=>false) (λ_ _=>false) (λ_ _ _ _=>false) (λf l ks _=>l.isEmpty && (ks.isEmpty && superName f)) (λ_ _ _ _=>false) (λ_ _=>false) (λ_ _ _=>false) (λ_ _ _=>false) (λ_ _ _=>false) (λ_ _=>false) (λ_ _=>false) (λ_ _=>false) (λ_ _ _=>false) (λ_ _ _ _=>false)
theorem attrBase_wp {M:Model} {A:Around} {E:Value→Shared→Prop} {s:Shared} {o:PySem.Expr} {attr:Str} {env:Env} {whole:Sem Value} {Q:Value→Shared→Prop}
  (hs:superLike o=false) (h:wpAny M A whole Q E s):wpAny M A (attributeBase o attr env whole) Q E s:=by
 induction o using PySem.Expr.casesOn <;> first | exact h | skip
 rename_i f args kws pos
 induction f using PySem.Expr.casesOn <;> first | exact h | skip
 rename_i id p
 cases args <;> first | exact h | skip
 cases kws <;> first | exact h | skip
 have:(id != ("super":Str))=true:=congrArg (!·) (show (id == ("super":Str))=false from hs)
 have e:attributeBase (.Call (.Name id p) [] [] pos) attr env whole=whole:=by
  dsimp only [attributeBase]
  refine if_pos ?_
  rw [this];rfl
 exact e.symm ▸ h
structure Cx0 (K:Frag) (p:Program) (loose:List Str) (mg mb:Str→Option Value) (A:Around) (h₀:Heap) (env:Env) (L:Addr):Prop where
 hk:env.scope.kind = .function
 hg:env.globals=mainGlobals
 hb:env.builtins=builtinsNs
 X:K.In h₀
 T:TopRead p loose mg mb h₀
 hh:A.handled=none
 hu:A.units < cLine
structure Cx (prog:Program) (w:World) (K:Frag) (p:Program) (loose:List Str) (mg mb:Str→Option Value) (ca:CA) (A:Around) (h₀:Heap) (outer:List Env) (env:Env) (L:Addr) (d:Nat):Prop extends Cx0 K p loose mg mb A h₀ env L where
 fr:∀ e ∈ outer,e.scope.kind ≠ .module∧Ex2 λx d=>e.frame=some x∧ca.fr x=some d
 new:ca.fr L=none
 hA:A.frames=some (env :: outer)
 hf:env.frame=some L
 room:A.depth + d ≤ 900
 units:A.units + 20 * d ≤ 8000
structure Rep (P:Params) (nm:Nat→Str) (ca:CA) (h₀:Heap) (L:Addr) (X:List (Addr × Obj)) (m:Str→Option Value) (h:Heap) (R:List RO) (H:Hp):Prop where
 F:Fr h₀ L h m
 N:News h₀ L h (led R ++ X)
 nd:((led R ++ X).map Prod.fst).Nodup
 hr:HR P nm ca R H
noncomputable def EnvR (T:Tb) (cells:List (Str × Addr)) (φ:List Addr) (m:Str→Option Value) (e:En):Prop :=
 ∀ x v,look e x=some v→(T.names.lookup (T.sn x)=some .local→∃ u,m (T.sn x)=some u∧VR φ v u) ∧
  (T.names.lookup (T.sn x)=some .cell→Ex2 λi a=>And3 (v = .ref i) (φ[i]?=some a) (cells.lookup (T.sn x)=some a))
theorem EnvR.mono {T:Tb} {cells:List (Str × Addr)} {φ ψ:List Addr} {m:Str→Option Value} {e:En} (h:EnvR T cells φ m e) (q:φ <+: ψ):EnvR T cells ψ m e:=λx v hx =>
 ⟨λk=>let ⟨u,a,b⟩:=(h x v hx).1 k;⟨u,a,b.mono q⟩,λk=>let ⟨i,a,b,c,d⟩:=(h x v hx).2 k;⟨i,a,b,by
  obtain ⟨S,rfl⟩:=q
  rw [List.getElem?_append_left (List.getElem?_eq_some_iff.mp c).1];exact c,d⟩⟩
noncomputable def NsOb (o:Obj) (m:Str→Option Value):Prop:=∀ (h:Heap) (a:Addr),h.get? a=some o→h.Ns a m
noncomputable def NF (C:Addr) (m₂:Str→Option Value) (L:Addr) (m:Str→Option Value) (X:List (Addr × Obj)):Prop:=(C=L∧m₂=m)∨∃ o,(C,o) ∈ X∧NsOb o m₂
noncomputable def EnvN (T:Tb) (env:Env) (L:Addr) (X:List (Addr × Obj)) (m:Str→Option Value) (φ:List Addr) (e:En):Prop:=∃ m₂,NF env.locals m₂ L m X∧EnvR T env.cells φ m₂ e
theorem EnvN.mono {T:Tb} {env:Env} {L:Addr} {X:List (Addr × Obj)} {φ ψ:List Addr} {m:Str→Option Value} {e:En} (h:EnvN T env L X m φ e) (q:φ <+: ψ):EnvN T env L X m ψ e :=
 let ⟨m₂,a,b⟩:=h;⟨m₂,a,b.mono q⟩
section
variable {P:Params} {nm:Nat→Str} {ca:CA} {h₀ h:Heap} {L:Addr} {X:List (Addr × Obj)} {m:Str→Option Value} {R:List RO} {H:Hp}
theorem Rep.names (r:Rep P nm ca h₀ L X m h R H) {C:Addr} {m₂:Str→Option Value} (q:NF C m₂ L m X):h.Ns C m₂:=by
 rcases q with ⟨rfl,rfl⟩ | ⟨o,ho,hn⟩
 ·exact r.F.ns
 ·exact hn h C (r.N _ (List.mem_append_right _ ho)).1
theorem Rep.one (r:Rep P nm ca h₀ L X m h R H) {h':Heap} {x:Addr} {ob:Obj} {o:O} (F':Fr h₀ L h' m) (N':News h₀ L h' ((x,ob) :: (led R ++ X))) (hx:∀ p ∈ led R ++ X,p.1 < x)
  (ho:OR P nm ca (ads R ++ [x]) o (.one x ob)):Rep P nm ca h₀ L X m h' (R ++ [.one x ob]) (H ++ [o]):=by
 have e:led (R ++ [.one x ob]) ++ X=led R ++ (x,ob) :: X:=by rw [led_append];simp [led,RO.seg]
 refine ⟨F',?_,?_,r.hr.push ho⟩
 ·rw [e]
  intro p hp
  apply N'
  rcases List.mem_append.mp hp with q | q
  ·exact .tail _ (List.mem_append_left _ q)
  ·rcases List.mem_cons.mp q with rfl | q
   ·exact .head _
   ·exact .tail _ (List.mem_append_right _ q)
 ·rw [e,List.map_append,List.map_cons]
  have nd:=r.nd
  rw [List.map_append] at nd
  refine (List.perm_middle.nodup_iff).mpr (List.nodup_cons.mpr ⟨λq=>?_,nd⟩)
  rw [← List.map_append] at q
  obtain ⟨p,hp,rfl⟩:=List.mem_map.mp q
  exact Nat.lt_irrefl _ (hx p hp)
theorem Rep.two (r:Rep P nm ca h₀ L X m h R H) {h':Heap} {x dx:Addr} {ob od:Obj} {o:O} (F':Fr h₀ L h' m) (N':News h₀ L h' ((x,ob) :: (dx,od) :: (led R ++ X))) (hx:∀ p ∈ led R ++ X,p.1 < dx) (hd:dx < x)
  (ho:OR P nm ca (ads R ++ [x]) o (.two x dx ob od)):Rep P nm ca h₀ L X m h' (R ++ [.two x dx ob od]) (H ++ [o]):=by
 have e:led (R ++ [.two x dx ob od]) ++ X=led R ++ (x,ob) :: (dx,od) :: X:=by rw [led_append];simp [led,RO.seg]
 refine ⟨F',?_,?_,r.hr.push ho⟩
 ·rw [e]
  intro p hp
  apply N'
  rcases List.mem_append.mp hp with q | q
  ·exact .tail _ (.tail _ (List.mem_append_left _ q))
  ·rcases List.mem_cons.mp q with rfl | q
   ·exact .head _
   ·rcases List.mem_cons.mp q with rfl | q
    ·exact .tail _ (.head _)
    ·exact .tail _ (.tail _ (List.mem_append_right _ q))
 ·rw [e,List.map_append,List.map_cons,List.map_cons]
  have nd:=r.nd
  rw [List.map_append] at nd
  have ha:∀ a,dx ≤ a→a ∉ (led R).map Prod.fst ++ X.map Prod.fst:=λa ha q=>by
   rw [← List.map_append] at q
   obtain ⟨p,hp,rfl⟩:=List.mem_map.mp q
   exact Nat.lt_irrefl _ (Nat.lt_of_lt_of_le (hx p hp) ha)
  refine (List.perm_middle.nodup_iff).mpr (List.nodup_cons.mpr ⟨λq=>?_,(List.perm_middle.nodup_iff).mpr (List.nodup_cons.mpr ⟨ha dx (Nat.le_refl _),nd⟩)⟩)
  rcases List.mem_append.mp q with q | q
  ·exact ha x (Nat.le_of_lt hd) (List.mem_append_left _ q)
  ·rcases List.mem_cons.mp q with q | q
   ·exact absurd (show x=dx from q) (Nat.ne_of_gt hd)
   ·exact ha x (Nat.le_of_lt hd) (List.mem_append_right _ q)
theorem Rep.set1 (r:Rep P nm ca h₀ L X m h R H) {i:Nat} {x:Addr} {ob ob':Obj} {o:O} {h':Heap} (hi:R[i]?=some (.one x ob)) (F':Fr h₀ L h' m)
  (N':News h₀ L h' (led (R.set i (.one x ob')) ++ X)) (ho:OR P nm ca (ads R) o (.one x ob')) (hH:H[i]? ≠ some .frame):Rep P nm ca h₀ L X m h' (R.set i (.one x ob')) (H.set i o) :=
 ⟨F',N',by rw [(upd_one hi r.nd).2];exact r.nd,r.hr.set hi rfl ho hH⟩
theorem Rep.set2 (r:Rep P nm ca h₀ L X m h R H) {i:Nat} {x dx:Addr} {ob od od':Obj} {o:O} {h':Heap} (hi:R[i]?=some (.two x dx ob od)) (F':Fr h₀ L h' m)
  (N':News h₀ L h' (led (R.set i (.two x dx ob od')) ++ X)) (ho:OR P nm ca (ads R) o (.two x dx ob od')) (hH:H[i]? ≠ some .frame):Rep P nm ca h₀ L X m h' (R.set i (.two x dx ob od')) (H.set i o) :=
 ⟨F',N',by rw [(upd_two hi r.nd).2];exact r.nd,r.hr.set hi rfl ho hH⟩
theorem Rep.getList (r:Rep P nm ca h₀ L X m h R H) {i:Nat} {l:List V} (e:H[i]?=some (.list l)) {u:Value} (hv:VR (ads R) (.ref i) u) :
  Ex3 λx vs n=>And4 (u = .ref x) (R[i]?=some (.one x (listOf vs.toArray n))) (VRs (ads R) l vs) (h.IsList x vs.toArray):=by
 obtain ⟨q,hq,x,vs,n,rfl,hvs⟩:=r.hr.get e
 obtain ⟨a,ha,rfl⟩:=hv
 rw [ads_get hq] at ha
 cases ha
 exact ⟨x,vs,n,rfl,hq,hvs,⟨_,(r.N _ (List.mem_append_left _ (led_one hq))).1,rfl,n,rfl⟩⟩
theorem Rep.getTup (r:Rep P nm ca h₀ L X m h R H) {i:Nat} {l:List V} (e:H[i]?=some (.tuple l)) {u:Value} (hv:VR (ads R) (.ref i) u) :
  Ex2 λx vs=>And3 (u = .ref x) (VRs (ads R) l vs) (IsTup h x vs.toArray):=by
 obtain ⟨q,hq,x,vs,n,rfl,hvs⟩:=r.hr.get e
 obtain ⟨a,ha,rfl⟩:=hv
 rw [ads_get hq] at ha
 cases ha
 exact ⟨x,vs,rfl,hvs,⟨_,(r.N _ (List.mem_append_left _ (led_one hq))).1,rfl,n,rfl⟩⟩
theorem Rep.getInst (r:Rep P nm ca h₀ L X m h R H) {i c:Nat} {fs:List (Nat × V)} (e:H[i]?=some (.inst c fs)) {u:Value} (hv:VR (ads R) (.ref i) u) :
  Ex4 λx dx es n=>And4 (u = .ref x) (R[i]?=some (.two x dx (instObj (ca c) dx) (dictOf es n))) (FR P nm (ads R) fs es) (InstAt h x (instObj (ca c) dx) (ca c) (some (dictOf es n))):=by
 obtain ⟨q,hq,x,dx,es,n,rfl,hvs⟩:=r.hr.get e
 obtain ⟨a,ha,rfl⟩:=hv
 rw [ads_get hq] at ha
 cases ha
 exact ⟨x,dx,es,n,rfl,hq,hvs,InstAt.of_news r.N (List.mem_append_left _ (led_two hq).1) (List.mem_append_left _ (led_two hq).2)⟩
end
noncomputable def SoundAt (prog:Program) (w:World) (nm:Nat→Str) (ca:CA) (A:Around) (h₀:Heap) (L:Addr) (env:Env) (T:Tb) (r:En→Hp→Option (V × Hp)) (t:Sem Value):Prop :=
 ∀ (e:En) (H:Hp) (v:V) (H':Hp),r e H=some (v,H')→∀ (s:Shared) (m:Str→Option Value) (R:List RO) (X:List (Addr × Obj)) (Q:Value→Shared→Prop) (E:Value→Shared→Prop),
  Rep w.params nm ca h₀ L X m s.heap R H→EnvN T env L X m (ads R) e →
  (∀ h' tk R' u,Rep w.params nm ca h₀ L X m h' R' H'→ads R <+: ads R'→VR (ads R') v u→Q u { s with heap:=h',toks:=tk }) →
  wpAny (model prog w) A t Q E s
theorem invV {β:Type} {o:Option (V × Hp)} {f:V→Hp→Option β} {q:β} (h:(match o with | some (u,h)=>f u h | _=>Option.none)=some q):Ex2 λu H=>o=some (u,H)∧f u H=some q:=by
 cases o with
 | none=>cases h
 | some p=>exact ⟨p.1,p.2,rfl,h⟩
theorem invVs {β:Type} {o:Option (List V × Hp)} {f:List V→Hp→Option β} {q:β} (h:(match o with | some (u,h)=>f u h | _=>Option.none)=some q):Ex2 λu H=>o=some (u,H)∧f u H=some q:=by
 cases o with
 | none=>cases h
 | some p=>exact ⟨p.1,p.2,rfl,h⟩
theorem invN {β:Type} {o:Option Nat} {f:Nat→Option β} {q:β} (h:(match o with | some u=>f u | _=>Option.none)=some q):∃ u,o=some u∧f u=some q:=by
 cases o with
 | none=>cases h
 | some p=>exact ⟨p,rfl,h⟩
theorem bno {a:Bool} (h:(!a)=true):a=false:=by
 cases a
 ·rfl
 ·exact Bool.noConfusion (show false=true from h)
theorem glb_of {T:Tb} {id:Str} (h:T.glb id=true):T.names.lookup id=some .globalImplicit∧(id == ("__debug__":Str))=false:=by
 have h:=Bool.and_eq_true_iff.mp h
 exact ⟨eq_of_beq h.1,bno h.2⟩
theorem loc_of {T:Tb} {x:Nat} {id:Str} (h:T.loc x id=true):And3 (id=T.sn x) (T.names.lookup (T.sn x)=some .local) ((id == ("__debug__":Str))=false):=by
 have h:=Bool.and_eq_true_iff.mp h
 have g:=Bool.and_eq_true_iff.mp h.1
 have e:=eq_of_beq g.1
 exact ⟨e,e ▸ eq_of_beq g.2,bno h.2⟩
theorem cel_of {T:Tb} {x:Nat} {id:Str} (h:T.cel x id=true):And3 (id=T.sn x) (T.names.lookup (T.sn x)=some .cell) ((id == ("__debug__":Str))=false):=by
 have h:=Bool.and_eq_true_iff.mp h
 have g:=Bool.and_eq_true_iff.mp h.1
 have e:=eq_of_beq g.1
 exact ⟨e,e ▸ eq_of_beq g.2,bno h.2⟩
theorem beq_true_iff {a b:Str} (h:(a == b)=true):a=b:=by exact of_decide_eq_true h
theorem small_of {i:Int} (h:isSmall i=true):-(2 ^ 62) < i∧i < 2 ^ 62:=by
 rw [isSmall,Bool.and_eq_true,decide_eq_true_eq,decide_eq_true_eq] at h
 exact h
theorem fold_rep (v:Value):∀ (k:Nat) (acc:Array Value),List.foldl (λx1 x2=>x1 ++ x2) acc (List.replicate k #[v])=acc ++ (List.replicate k v).toArray
 | 0,acc=>by rfl
 | k + 1,acc=>by
  rw [List.replicate_succ,List.foldl_cons,fold_rep v k]
  rw [List.replicate_succ]
  apply Array.toList_inj.mp
  simp
theorem capL_line {n:Nat} (h:n < capL):n ≤ sizeLine:=by
 unfold capL at h;unfold sizeLine;lia
section
variable {prog:Program} {w:World} {K:Frag} {p:Program} {loose:List Str} {mg mb:Str→Option Value} {A A₀:Around} {base h₀:Heap} {outer:List Env} {env:Env} {L:Addr} {d:Nat} {nm:Nat→Str} {ca:CA} {T:Tb}
theorem s_const {r:En→Hp→Option (V × Hp)} {t:Sem Value} {v:V} (hr:∀ e H,r e H=some (v,H))
  (ht:∀ (s:Shared) (Q:Value→Shared→Prop) (E:Value→Shared→Prop),(∀ tk u,VR [] v u→Q u { s with toks:=tk })→wpAny (model prog w) A t Q E s) (hm:∀ φ u,VR [] v u→VR φ v u) :
  SoundAt prog w nm ca A h₀ L env T r t:=by
 intro e H v' H' h s m R X Q E hR hE k
 rw [hr] at h
 cases h
 exact ht s Q E λtk u hu=>k s.heap tk R u hR (List.prefix_refl _) (hm _ _ hu)
theorem s_var (C:Cx0 K p loose mg mb A h₀ env L) {x:Nat} {id:Str} {pos:Pos} (hT:T.names=env.scope.names) (h:T.loc x id=true) :
  SoundAt prog w nm ca A h₀ L env T (λe H=>(look e x).map λv=>(v,H)) (eval (.Name id pos) env):=by
 obtain ⟨rfl,h2,h3⟩:=loc_of h
 intro e H v H' hv s m R X Q E hR hE k
 obtain ⟨v',hx,hv⟩:=Option.map_eq_some_iff.mp hv
 cases hv
 obtain ⟨m₂,hnf,hE⟩:=hE
 obtain ⟨u,hu,hr⟩:=(hE x _ hx).1 h2
 refine wpAny_Name (wpAny_loadName_local C.hk (by unfold Env.kindOf;rw [← hT];exact h2) (hR.names hnf) hu ?_) h3
 exact k s.heap s.toks R u hR (List.prefix_refl _) hr
theorem s_cvar (C:Cx0 K p loose mg mb A h₀ env L) {x:Nat} {id:Str} {pos:Pos} (hT:T.names=env.scope.names) (h:T.cel x id=true) :
  SoundAt prog w nm ca A h₀ L env T (λe H=>match look e x with
  | some (.ref i)=>match H[i]? with
   | some (.cell (some v))=>some (v,H)
   | _=>Option.none
  | _=>Option.none) (eval (.Name id pos) env):=by
 obtain ⟨rfl,h2,h3⟩:=cel_of h
 intro e H v H' hv s m R X Q E hR hE k
 dsimp only at hv
 split at hv
 ·rename_i i hx
  split at hv
  ·rename_i v' hi
   cases hv
   obtain ⟨m₂,hnf,hE⟩:=hE
   obtain ⟨i',a,hia,ha,hc⟩:=(hE x _ hx).2 h2
   cases hia
   obtain ⟨r,hr,y,oc,u,rfl,hoc,hu⟩:=hR.hr.get hi
   rw [ads_get hr] at ha
   cases ha
   refine wpAny_Name (wpAny_loadName_cell C.hk (by unfold Env.kindOf;rw [← hT];exact h2) hc ⟨_,(hR.N _ (List.mem_append_left _ (led_one hr))).1,hoc⟩ ?_) h3
   exact k s.heap s.toks R u hR (List.prefix_refl _) hu
  ·cases hv
 ·cases hv
theorem s_gint (C:Cx0 K p loose mg mb A h₀ env L) {id:Str} {i:Int} {pos:Pos} (hT:T.names=env.scope.names) (h:T.glb id=true)
  (hi:∃ t,nsIn K mainGlobals id=some (some (.int i t))):SoundAt prog w nm ca A h₀ L env T (λ_ H=>some (.int i,H)) (eval (.Name id pos) env):=by
 obtain ⟨h2,h3⟩:=glb_of h
 obtain ⟨t,hi⟩:=hi
 intro e H v H' hv s m R X Q E hR hE k
 cases hv
 refine Name_function_global C.hk (by unfold Env.kindOf;rw [← hT];exact h2) (loadGlobal_global (by rw [C.hg];exact C.T.g.keeps hR.F.keep) (mg_of C.X C.T.g hi) ?_) h3
 exact k s.heap s.toks R _ hR (List.prefix_refl _) ⟨t,rfl⟩
theorem s_int {i:Int} {k:Nat} {pos:Pos}:SoundAt prog w nm ca A h₀ L env T (λ_ H=>some (.int i,H)) (eval (.Constant (.int i) k pos) env) :=
 s_const (λ_ _=>rfl) (λs Q E q=>wpAny_Constant_int (q _ _ ⟨_,rfl⟩)) λ_ _ h=>h
theorem s_none {k:Nat} {pos:Pos}:SoundAt prog w nm ca A h₀ L env T (λ_ H=>some (.none,H)) (eval (.Constant .none k pos) env) :=
 s_const (v:=.none) (λ_ _=>rfl) (λs Q E q=>by rw [eval_Constant];exact wpAny_pure (q s.toks _ rfl)) λ_ _ h=>h
theorem s_bool {b:Bool} {k:Nat} {pos:Pos}:SoundAt prog w nm ca A h₀ L env T (λ_ H=>some (.bool b,H)) (eval (.Constant (.bool b) k pos) env) :=
 s_const (v:=.bool b) (λ_ _=>rfl) (λs Q E q=>by rw [eval_Constant];exact wpAny_pure (q s.toks _ rfl)) λ_ _ h=>h
theorem s_bytes {b:List UInt8} {k:Nat} {pos:Pos}:SoundAt prog w nm ca A h₀ L env T (λ_ H=>some (.bytes b,H)) (eval (.Constant (.bytes b) k pos) env) :=
 s_const (v:=.bytes b) (λ_ _=>rfl) (λs Q E q=>by rw [eval_Constant];exact λ_ _ _=>q (s.toks + 1) _ ⟨_,rfl⟩) λ_ _ h=>h
theorem s_neg {i:Int} {k:Nat} {pos pos':Pos}:SoundAt prog w nm ca A h₀ L env T (λ_ H=>some (.int (-i),H)) (eval (.UnaryOp .USub (.Constant (.int i) k pos) pos') env) :=
 s_const (λ_ _=>rfl) (λs Q E q=>by
  show wpAny _ _ (eval (.Constant (.int i) k pos) env >>= λv=>standAt pos' >>= λ_=>holding [v] (unaryOp .USub v)) _ _ _
  exact wpAny_bind (wpAny_Constant_int (wpAny_bind (wpAny_standAt (wpAny_holding (neg_int (q (s.toks + 1 + 1) _ ⟨_,rfl⟩))))))) λ_ _ h=>h
theorem s_two {ra rb:En→Hp→Option (V × Hp)} {ta tb:Sem Value} {f:V→V→Hp→Option (V × Hp)} {g:Value→Value→Sem Value} {t:Sem Value}
  (ha:SoundAt prog w nm ca A h₀ L env T ra ta) (hb:SoundAt prog w nm ca A h₀ L env T rb tb)
  (hf:∀ (u v:V) (H:Hp) (r:V) (H':Hp),f u v H=some (r,H')→∀ (s:Shared) (m:Str→Option Value) (R:List RO) (X:List (Addr × Obj)) (a b:Value) (Q:Value→Shared→Prop) (E:Value→Shared→Prop),
   Rep w.params nm ca h₀ L X m s.heap R H→VR (ads R) u a→VR (ads R) v b →
   (∀ h' tk R' y,Rep w.params nm ca h₀ L X m h' R' H'→ads R <+: ads R'→VR (ads R') r y→Q y { s with heap:=h',toks:=tk })→wpAny (model prog w) A (g a b) Q E s)
  (ht:∀ (s:Shared) (Q:Value→Shared→Prop) (E:Value→Shared→Prop),wpAny (model prog w) A ta (λa s₁=>wpAny (model prog w) A tb (λb s₂=>wpAny (model prog w) A (g a b) Q E s₂) E s₁) E s→wpAny (model prog w) A t Q E s) :
  SoundAt prog w nm ca A h₀ L env T (λe H=>match ra e H with
   | some (u,H)=>match rb e H with
    | some (v,H)=>f u v H
    | _=>Option.none
   | _=>Option.none) t:=by
 intro e H v H' hv s m R X Q E hR hE k
 dsimp only at hv
 obtain ⟨u,H1,h1,hv⟩:=invV hv
 obtain ⟨v2,H2,h2,hv⟩:=invV hv
 refine ht _ _ _ (ha e H u H1 h1 s m R X _ _ hR hE λh' tk R' a hR' e1 va=>?_)
 refine hb e H1 v2 H2 h2 _ m R' X _ _ hR' (hE.mono e1) λh'' tk' R'' b hR'' e2 vb=>?_
 refine hf u v2 H2 v H' hv _ m R'' X a b _ _ hR'' (va.mono e2) vb λh3 tk3 R3 y hR3 e3 vy=>?_
 exact k h3 tk3 R3 y hR3 ((e1.trans e2).trans e3) vy
theorem s_one {ra:En→Hp→Option (V × Hp)} {ta:Sem Value} {f:V→Hp→Option (V × Hp)} {g:Value→Sem Value} {t:Sem Value}
  (ha:SoundAt prog w nm ca A h₀ L env T ra ta)
  (hf:∀ (u:V) (H:Hp) (r:V) (H':Hp),f u H=some (r,H')→∀ (s:Shared) (m:Str→Option Value) (R:List RO) (X:List (Addr × Obj)) (a:Value) (Q:Value→Shared→Prop) (E:Value→Shared→Prop),
   Rep w.params nm ca h₀ L X m s.heap R H→VR (ads R) u a →
   (∀ h' tk R' y,Rep w.params nm ca h₀ L X m h' R' H'→ads R <+: ads R'→VR (ads R') r y→Q y { s with heap:=h',toks:=tk })→wpAny (model prog w) A (g a) Q E s)
  (ht:∀ (s:Shared) (Q:Value→Shared→Prop) (E:Value→Shared→Prop),wpAny (model prog w) A ta (λa s₁=>wpAny (model prog w) A (g a) Q E s₁) E s→wpAny (model prog w) A t Q E s) :
  SoundAt prog w nm ca A h₀ L env T (λe H=>match ra e H with
   | some (u,H)=>f u H
   | _=>Option.none) t:=by
 intro e H v H' hv s m R X Q E hR hE k
 dsimp only at hv
 obtain ⟨u,H1,h1,hv⟩:=invV hv
 refine ht _ _ _ (ha e H u H1 h1 s m R X _ _ hR hE λh' tk R' a hR' e1 va=>?_)
 refine hf u H1 v H' hv _ m R' X a _ _ hR' va λh3 tk3 R3 y hR3 e3 vy=>?_
 exact k h3 tk3 R3 y hR3 (e1.trans e3) vy
theorem bor_nat {i j:Int} (hi:0 ≤ i) (hj:0 ≤ j):Builtin.bitOr i j=((i.toNat ||| j.toNat:Nat):Int):=by
 obtain ⟨a,rfl⟩:=Int.eq_ofNat_of_zero_le hi
 obtain ⟨b,rfl⟩:=Int.eq_ofNat_of_zero_le hj
 unfold Builtin.bitOr Builtin.bitAnd Builtin.bitNot
 have h1:decide (0 ≤ -((a:Nat):Int) - 1)=false:=by simp;lia
 have h2:decide (0 ≤ -((b:Nat):Int) - 1)=false:=by simp;lia
 simp only [h1,h2]
 have e1:-(-((a:Nat):Int) - 1) - 1=a:=by lia
 have e2:-(-((b:Nat):Int) - 1) - 1=b:=by lia
 rw [e1,e2]
 simp only [Int.toNat_natCast]
 lia
theorem add_is {op:Bop} (h:isAdd op=true):op = .add:=by induction op <;> first | rfl | exact nomatch h
theorem mul_is {op:Bop} (h:isMul op=true):op = .mul:=by induction op <;> first | rfl | exact nomatch h
theorem ite_some {α:Type} {c:Prop} [Decidable c] {a:α} {q:α} (h:(if c then some a else Option.none)=some q):c∧q=a:=by
 by_cases hc:c
 ·rw [if_pos hc] at h;exact ⟨hc,(Option.some.inj h).symm⟩
 ·rw [if_neg hc] at h;cases h
theorem iteO {α:Type} {c:Prop} [Decidable c] {o:Option α} {q:α} (h:(if c then o else Option.none)=some q):c∧o=some q:=by
 by_cases hc:c
 ·rw [if_pos hc] at h;exact ⟨hc,h⟩
 ·rw [if_neg hc] at h;cases h
theorem some2 {α β:Type} {a c:α} {b d:β} (h:some (a,b)=some (c,d)):a=c∧b=d:=by cases h;exact ⟨rfl,rfl⟩
theorem list_some {α:Type} {H:Hp} {x:Nat} {f:List V→Option α} {q:α} (h:(match H[x]? with | some (.list l)=>f l | _=>Option.none)=some q):∃ l,H[x]?=some (.list l)∧f l=some q:=by
 cases hx:H[x]? with
 | none=>rw [hx] at h;cases h
 | some o=>rw [hx] at h;induction o <;> first | exact nomatch (show Option.none=some q from h) | exact ⟨_,rfl,h⟩
inductive BopI (op:Bop) (u v:V) (H:Hp) (q:V × Hp):Prop where
 | int (i j:Int) (h1:u = .int i) (h2:v = .int j) (h:bopI op i j H=some q)
 | cat (x y:List UInt8) (h1:u = .bytes x) (h2:v = .bytes y) (h:isAdd op=true∧x.length + y.length < capL) (e:q=(.bytes (x ++ y),H))
 | rep (x:List UInt8) (j:Int) (h1:u = .bytes x) (h2:v = .int j) (h:isMul op=true∧x ≠ []∧x.length ≤ 16∧0 ≤ j∧j ≤ 1048576) (e:q=(.bytes (List.flatten (List.replicate j.toNat x)),H))
 | list (x y:Nat) (l r:List V) (h1:u = .ref x) (h2:v = .ref y) (hx:H[x]?=some (.list l)) (hy:H[y]?=some (.list r)) (h:isAdd op=true∧l.length + r.length < capL) (e:q=(.ref H.length,H ++ [.list (l ++ r)]))
 | lrep (x:Nat) (j:Int) (v0:V) (h1:u = .ref x) (h2:v = .int j) (hx:H[x]?=some (.list [v0])) (h:isMul op=true∧0 ≤ j∧j < capL) (e:q=(.ref H.length,H ++ [.list (List.replicate j.toNat v0)]))
theorem bop_inv {op:Bop} {u v:V} {H:Hp} {q:V × Hp} (h:bop op u v H=some q):BopI op u v H q:=by
 induction u <;> first | exact nomatch (show Option.none=some q from h) | skip
 ·induction v <;> first | exact nomatch (show Option.none=some q from h) | exact .int _ _ rfl rfl h
 ·induction v <;> first | exact nomatch (show Option.none=some q from h) | exact .cat _ _ rfl rfl (ite_some h).1 (ite_some h).2 | exact .rep _ _ rfl rfl (ite_some h).1 (ite_some h).2
 ·rename_i x
  induction v <;> first | exact nomatch (show Option.none=some q from h) | skip
  ·rename_i j
   obtain ⟨l,hx,h⟩:=list_some (f:=λl=>match l with | [v]=>if isMul op=true∧0 ≤ j∧j < capL then some (V.ref H.length,H ++ [O.list (List.replicate j.toNat v)]) else Option.none | _=>Option.none) (q:=q) (by
    rw [← h]
    show _=(match H[x]? with | some (.list [v])=>if isMul op=true∧0 ≤ j∧j < capL then some (V.ref H.length,H ++ [O.list (List.replicate j.toNat v)]) else Option.none | _=>Option.none)
    cases H[x]? with
    | none=>rfl
    | some o=>induction o <;> first | rfl | (rename_i l;cases l with | nil=>rfl | cons a l=>cases l <;> rfl))
   cases l with
   | nil=>cases h
   | cons a l =>
    cases l with
    | nil=>exact .lrep _ _ _ rfl rfl hx (ite_some h).1 (ite_some h).2
    | cons=>cases h
  ·obtain ⟨l,hx,h⟩:=list_some h
   obtain ⟨r,hy,h⟩:=list_some h
   exact .list _ _ _ _ rfl rfl hx hy (ite_some h).1 (ite_some h).2
theorem h_bopI {op:Bop} {i j:Int} {t t':Tok} {H:Hp} {q:V × Hp} (h:bopI op i j H=some q) {s:Shared} {Q:Value→Shared→Prop} {E:Value→Shared→Prop} (k:∀ tk y,VR [] q.1 y→q.2=H→Q y { s with toks:=tk }):wpAny (model prog w) A (binaryOp (bopOf op) (.int i t) (.int j t')) Q E s:=by
 have k0:∀ {n:Int} {tk:Nat} {t:Tok},q=(.int n,H)→Q (.int n t) { s with toks:=tk }:=fun {n tk t} e=>k tk _ (by rw [e];exact ⟨t,rfl⟩) (by rw [e])
 cases op with
 | add=>exact add_int (k0 (Option.some.inj h).symm)
 | sub=>exact sub_int (k0 (Option.some.inj h).symm)
 | mul =>
  obtain ⟨c,e⟩:=ite_some h
  obtain ⟨a,b⟩:=small_of (Bool.and_eq_true_iff.mp c).1
  exact mul_int (k0 e) (.of_left (intBits_le_64 (by lia) (by lia)))
 | fdiv =>
  obtain ⟨c,e⟩:=ite_some h
  exact floordiv_int (Int.ne_of_gt c.1) (by rw [Int.fdiv_eq_ediv_of_nonneg _ (Int.le_of_lt c.1)];exact k0 (tk:=s.toks + 1) e) (.inl (PyProof.noPylong_small (by omega)))
 | mod =>
  obtain ⟨c,e⟩:=ite_some h
  exact mod_int (Int.ne_of_gt c) (by rw [Int.fmod_eq_emod_of_nonneg _ (Int.le_of_lt c)];exact k0 (tk:=s.toks + 1) e)
 | band =>
  obtain ⟨c,e⟩:=ite_some h
  refine and_int ?_
  have:Builtin.bitAnd i j=((i.toNat &&& j.toNat:Nat):Int):=by simp [Builtin.bitAnd,c.1,c.2]
  rw [this];exact k0 (tk:=s.toks + 1) e
 | bor =>
  obtain ⟨c,e⟩:=ite_some h
  refine or_int ?_
  rw [bor_nat c.1 c.2];exact k0 (tk:=s.toks + 1) e
 | shl =>
  obtain ⟨⟨c1,c2,c3,c4⟩,e⟩:=ite_some h
  exact lshift_int_small c2 (by lia) (by omega) (k0 e)
 | shr =>
  obtain ⟨⟨c1,c2,c3⟩,e⟩:=ite_some h
  refine rshift_int c2 ?_ 
  rw [Int.fdiv_eq_ediv_of_nonneg _ (Int.le_of_lt (Int.pow_pos (by decide)))];exact k0 (tk:=s.toks + 1) e
theorem h_bop (hh:A.handled=none) {op:Bop} (u v:V) (H:Hp) (r:V) (H':Hp) (h:bop op u v H=some (r,H')) (s:Shared) (m:Str→Option Value) (R:List RO) (X:List (Addr × Obj)) (a b:Value) (Q:Value→Shared→Prop) (E:Value→Shared→Prop)
  (hR:Rep w.params nm ca h₀ L X m s.heap R H) (ha:VR (ads R) u a) (hb:VR (ads R) v b)
  (k:∀ h' tk R' y,Rep w.params nm ca h₀ L X m h' R' H'→ads R <+: ads R'→VR (ads R') r y→Q y { s with heap:=h',toks:=tk }):wpAny (model prog w) A (binaryOp (bopOf op) a b) Q E s:=by
 have len:∀ {x:Addr},(ads R ++ [x])[H.length]?=some x:=fun {x}=>by rw [List.getElem?_append_right (by rw [← hR.hr.len];exact Nat.le_of_eq (List.length_map _)),← hR.hr.len];unfold ads;rw [List.length_map,Nat.sub_self];rfl
 rcases bop_inv h with ⟨i,j,rfl,rfl,e⟩ | ⟨x,y,rfl,rfl,⟨c1,c2⟩,e⟩ | ⟨x,j,rfl,rfl,⟨c0,c1,c2,c3,c4⟩,e⟩ | ⟨x,y,l,r,rfl,rfl,hx,hy,⟨c1,c2⟩,e⟩ | ⟨x,j,v0,rfl,rfl,hx,⟨c0,c1,c2⟩,e⟩
 ·obtain ⟨t,rfl⟩:=ha;obtain ⟨t',rfl⟩:=hb
  exact h_bopI e λtk y vy eH=>by
   obtain rfl:H'=H:=eH
   exact k s.heap tk R y hR (List.prefix_refl _) (vy.mono (List.nil_prefix))
 ·obtain ⟨t,rfl⟩:=ha;obtain ⟨t',rfl⟩:=hb
  cases e
  obtain rfl:=add_is c1
  refine bytes_add_K (by unfold capL at c2;simp;lia) rfl λt _=>?_
  exact k s.heap _ R _ hR (List.prefix_refl _) ⟨_,rfl⟩
 ·obtain ⟨t,rfl⟩:=ha;obtain ⟨t',rfl⟩:=hb
  cases e
  obtain rfl:=mul_is c0
  exact bytes_mul_any c1 (by lia) (by omega) c2 λt' _=>k s.heap _ R _ hR (List.prefix_refl _) ⟨_,rfl⟩
 ·cases e
  obtain rfl:=add_is c1
  obtain ⟨x',vs,n,rfl,e1,hvs,L1⟩:=hR.getList hx ha
  obtain ⟨y',ws,n',rfl,e2,hws,L2⟩:=hR.getList hy hb
  refine add_arrays hR.F hR.N L1 L2 (λh' F' N'=>?_) (by
   have a1:=hvs.length;have a2:=hws.length
   simp only [List.size_toArray];unfold capL at c2;unfold sizeLine;lia)
  exact k h' s.toks _ _ (hR.one F' N' (λp hp=>Heap.lt_size (hR.N p hp).1) ⟨_,vs ++ ws,0,rfl,(hvs.append hws).mono (List.prefix_append ..)⟩) (by rw [ads_append];exact List.prefix_append ..) ⟨_,by rw [ads_append];exact len,rfl⟩
 ·cases e
  obtain rfl:=mul_is c0
  obtain ⟨t',rfl⟩:=hb
  obtain ⟨x',vs,n,rfl,e1,hvs,L1⟩:=hR.getList hx ha
  obtain ⟨u0,rfl⟩:∃ u0,vs = [u0]:=by
   cases vs with
   | nil=>exact hvs.elim
   | cons u0 vs=>cases vs with
    | nil=>exact ⟨u0,rfl⟩
    | cons=>exact hvs.2.elim
  refine mul_list hR.F hR.N (hR.N _ (List.mem_append_left _ (led_one e1))).1 (by lia) (by unfold capL at c2;lia) (by unfold capL at c2;simp;lia) λh' F' N'=>?_
  have e0:(List.foldl (λx1 x2=>x1 ++ x2) #[] (List.replicate (if Array.isEmpty [u0].toArray=true then 0 else j.toNat) [u0].toArray))=(List.replicate j.toNat u0).toArray:=by
   rw [if_neg (by simp)];exact (fold_rep u0 _ #[]).trans (by simp)
  rw [e0] at N'
  exact k h' s.toks _ _ (hR.one F' N' (λp hp=>Heap.lt_size (hR.N p hp).1) ⟨_,_,0,rfl,(VRs.replicate hvs.1 _).mono (List.prefix_append ..)⟩) (by rw [ads_append];exact List.prefix_append ..) ⟨_,by rw [ads_append];exact len,rfl⟩
end
theorem ints_are {φ:List Addr} {l:List V} {vs:List Value} {ns:List Int} (hv:VRs φ l vs) (h:ints? l=some ns):IntsAre vs ns :=
 VRs.ind (p:=λl vs=>∀ ns,ints? l=some ns→IntsAre vs ns) (λns h=>by cases h;exact .nil) (λv u l vs hv _ ih ns h=>by
  induction v <;> first | exact nomatch (show Option.none=some ns from h) | skip
  obtain ⟨t,rfl⟩:=hv
  obtain ⟨q,hq,rfl⟩:=Option.map_eq_some_iff.mp h
  exact .cons _ _ (ih _ hq)) l vs hv ns h
theorem findV_at {φ:List Addr} {k:Int} {l:List V} {vs:List Value} {j:Nat} (hv:VRs φ l vs) (h:findV k l=some j):kf_at k vs=some j :=
 VRs.ind (p:=λl vs=>∀ j,findV k l=some j→kf_at k vs=some j) (λj h=>nomatch (show Option.none=some j from h)) (λv u l vs hv _ ih j h=>by
  induction v <;> first | exact nomatch (show Option.none=some j from h) | skip
  rename_i i
  obtain ⟨t,rfl⟩:=hv
  replace h:(if i=k then some 0 else (findV k l).map (· + 1))=some j:=h
  unfold kf_at
  by_cases e:i=k
  ·subst e
   rw [if_pos rfl] at h
   cases h
   simp [isInt]
  ·rw [if_neg e] at h
   obtain ⟨q,hq,rfl⟩:=Option.map_eq_some_iff.mp h
   rw [ih _ hq,show isInt k (Value.int i t)=false from by simp [isInt,e]]
   rfl) l vs hv j h
section
variable {prog:Program} {w:World} {K:Frag} {p:Program} {loose:List Str} {mg mb:Str→Option Value} {A A₀:Around} {base h₀:Heap} {outer:List Env} {env:Env} {L:Addr} {d:Nat} {nm:Nat→Str} {ca:CA} {T:Tb}
theorem h_truth {H:Hp} {u:V} {b:Bool} (h:truth H u=some b) {s:Shared} {m:Str→Option Value} {R:List RO} {X:List (Addr × Obj)} {a:Value} {Q:Bool→Shared→Prop} {E:Value→Shared→Prop}
  (hR:Rep w.params nm ca h₀ L X m s.heap R H) (ha:VR (ads R) u a) (k:∀ tk,Q b { s with toks:=tk }):wpAny (model prog w) A (truthy a) Q E s:=by
 cases u with
 | bool c=>cases h;cases ha;exact wpAny_truthy_bool (k s.toks)
 | ref i =>
  unfold truth at h
  dsimp only at h
  ·split at h
   ·rename_i l hl
    split at h
    ·rename_i hc
     cases h
     obtain ⟨x,vs,n,rfl,e1,hvs,L1⟩:=hR.getList hl ha
     refine wpAny_truthy_list L1 (by have:=hvs.length;unfold capL at hc;simp only [List.size_toArray];omega) ?_
     have e:(!vs.toArray.isEmpty) = !l.isEmpty:=by
      cases vs <;> cases l <;> first | rfl | exact hvs.elim
     rw [e]
     exact k _
    ·cases h
   ·cases h
 | none=>cases h
 | int i=>cases h
 | bytes b=>cases h
theorem s_not {ra:En→Hp→Option (V × Hp)} {x:PySem.Expr} {pos:Pos} (ha:SoundAt prog w nm ca A h₀ L env T ra (eval x env)) :
  SoundAt prog w nm ca A h₀ L env T (λe H=>match ra e H with
   | some (u,H)=>(truth H u).map λb=>(.bool (!b),H)
   | _=>Option.none) (eval (.UnaryOp .Not x pos) env):=by
 refine s_one (f:=λu H=>(truth H u).map λb=>(.bool (!b),H)) (g:=λv=>unaryOp .Not v) ha (λu H r H' h s m R X a Q E hR hv k=>?_) λs Q E h=>?_
 ·obtain ⟨b,hb,e⟩:=Option.map_eq_some_iff.mp h
  cases e
  exact not_of (h_truth hb hR hv λtk=>k s.heap tk R _ hR (List.prefix_refl _) rfl)
 ·show wpAny _ _ (eval x env >>= λv=>standAt pos >>= λ_=>holding [v] (unaryOp .Not v)) _ _ _
  exact wpAny_bind (wpAny_mono h (λa s' q=>wpAny_bind (wpAny_standAt (wpAny_holding q))) λ_ _ q=>q)
theorem s_bin {op:Bop} {ra rb:En→Hp→Option (V × Hp)} {l r:PySem.Expr} {pos:Pos} (hh:A.handled=none) (ha:SoundAt prog w nm ca A h₀ L env T ra (eval l env)) (hb:SoundAt prog w nm ca A h₀ L env T rb (eval r env)) :
  SoundAt prog w nm ca A h₀ L env T (λe H=>match ra e H with
   | some (u,H)=>match rb e H with
    | some (v,H)=>bop op u v H
    | _=>Option.none
   | _=>Option.none) (eval (.BinOp l (bopOf op) r pos) env) :=
 s_two (f:=bop op) (g:=λa b=>binaryOp (bopOf op) a b) ha hb (λu v H r H' h s m R X a b Q E hR hva hvb k=>h_bop hh u v H r H' h s m R X a b Q E hR hva hvb k) λs Q E h=>wpAny_BinOp h
theorem veq_ok {φ:List Addr} {u v:V} {b:Bool} (h:veq u v=some b) {a c:Value} (ha:VR φ u a) (hc:VR φ v c) {s:Shared} {Q:Value→Shared→Prop} {E:Value→Shared→Prop} (k:Q (.bool b) s) :
  wpAny (model prog w) A (compareOp .Eq a c) Q E s:=by
 induction u <;> induction v <;> first | exact nomatch (show Option.none=some b from h) | skip
 ·cases h;cases ha;cases hc;exact EqNone.eq_none_none k
 ·cases h;cases ha;obtain ⟨t,rfl⟩:=hc;exact EqNone.eq_none_int k
 ·cases h;cases ha;cases hc;exact eq_bool k
 ·cases h;obtain ⟨t,rfl⟩:=ha;cases hc;exact EqNone.eq_int_none k
 ·cases h;obtain ⟨t,rfl⟩:=ha;obtain ⟨t',rfl⟩:=hc;exact eq_int k
 ·cases h;obtain ⟨t,rfl⟩:=ha;obtain ⟨t',rfl⟩:=hc;exact eq_bytes k
theorem vne_ok {φ:List Addr} {u v:V} {b:Bool} (h:veq u v=some b) {a c:Value} (ha:VR φ u a) (hc:VR φ v c) {s:Shared} {Q:Value→Shared→Prop} {E:Value→Shared→Prop} (k:Q (.bool (!b)) s) :
  wpAny (model prog w) A (compareOp .NotEq a c) Q E s:=by
 induction u <;> induction v <;> first | exact nomatch (show Option.none=some b from h) | skip
 ·cases h;cases ha;cases hc;exact EqNone.ne_none_none k
 ·cases h;cases ha;obtain ⟨t,rfl⟩:=hc;exact EqNone.ne_none_int k
 ·cases h;cases ha;cases hc;exact ne_bool k
 ·cases h;obtain ⟨t,rfl⟩:=ha;cases hc;exact EqNone.ne_int_none k
 ·cases h;obtain ⟨t,rfl⟩:=ha;obtain ⟨t',rfl⟩:=hc;exact ne_int k
 ·cases h;obtain ⟨t,rfl⟩:=ha;obtain ⟨t',rfl⟩:=hc;exact ne_bytes k
end
end Mine
end
section
open PySem PySem.W PyProof.Rows PySem.Calls Builtin
set_option maxRecDepth 100000
namespace Mine
theorem slot_lt:Slot "bytes" (cmpInfo .Lt).2.1 "bytes.__lt__" :=
 .of (owner := "bytes") (n := "__lt__") (by rw [typeLookup_type,builtinLookup_eq_fast];kernel_rfl) (by decide +kernel) (by decide +kernel) (by decide +kernel)
  (by first | exact .inl (by decide +kernel) | exact .inr (by decide +kernel)) (by rw [isSubtype_type];kernel_rfl)
theorem entry_lt:entryFor table "bytes.__lt__"=some Builtin.«bytes.__lt__»:=entryFor_of_tree (by kernel_rfl)
theorem args_lt (a b:Value):argsOk "bytes.__lt__" ⟨[a,b],[]⟩:=by
 unfold argsOk;rw [signature?_of (id := "bytes.__lt__") (n:=['_','_','t','l','_','_']) (o:=['s','e','t','y','b']) (by kernel_rfl) FB.owner_bytes];kernel_rfl
theorem slot_gt:Slot "bytes" (cmpInfo .Gt).2.1 "bytes.__gt__" :=
 .of (owner := "bytes") (n := "__gt__") (by rw [typeLookup_type,builtinLookup_eq_fast];kernel_rfl) (by decide +kernel) (by decide +kernel) (by decide +kernel)
  (by first | exact .inl (by decide +kernel) | exact .inr (by decide +kernel)) (by rw [isSubtype_type];kernel_rfl)
theorem entry_gt:entryFor table "bytes.__gt__"=some Builtin.«bytes.__gt__»:=entryFor_of_tree (by kernel_rfl)
theorem args_gt (a b:Value):argsOk "bytes.__gt__" ⟨[a,b],[]⟩:=by
 unfold argsOk;rw [signature?_of (id := "bytes.__gt__") (n:=['_','_','t','g','_','_']) (o:=['s','e','t','y','b']) (by kernel_rfl) FB.owner_bytes];kernel_rfl
theorem order_lt:∀ a b:List UInt8,(Bytes.order a b == .lt)=bltB a b
 | [],[]=>rfl
 | [],_ :: _=>rfl
 | _ :: _,[]=>rfl
 | x :: a,y :: b=>by
  simp only [Bytes.order,bltB]
  by_cases h1:x < y
  ·simp [h1]
  ·by_cases h2:x > y
   ·have:x ≠ y:=λe=>by subst e;exact absurd h2 (UInt8.lt_irrefl _)
    have e:(x == y)=false:=by simpa using this
    simp [h1,h2,e]
   ·have:x=y:=UInt8.le_antisymm (UInt8.not_lt.mp h2) (UInt8.not_lt.mp h1)
    subst this
    have:=order_lt a b
    simp [h1,this]
theorem order_gt:∀ a b:List UInt8,(Bytes.order a b == .gt)=bltB b a
 | [],[]=>rfl
 | [],_ :: _=>rfl
 | _ :: _,[]=>rfl
 | x :: a,y :: b=>by
  simp only [Bytes.order,bltB]
  by_cases h1:x < y
  ·have h2:¬ y < x:=λq=>absurd (UInt8.lt_trans h1 q) (UInt8.lt_irrefl _)
   have:y ≠ x:=λe=>by subst e;exact absurd h1 (UInt8.lt_irrefl _)
   have e:(y == x)=false:=by simpa using this
   simp [h1,h2,e]
  ·by_cases h2:x > y
   ·have h3:y < x:=h2
    simp [h1,h3]
   ·have:x=y:=UInt8.le_antisymm (UInt8.not_lt.mp h2) (UInt8.not_lt.mp h1)
    subst this
    have:=order_gt a b
    simp [h1,this]
theorem gives_lt (b c:Array UInt8) (t u:Tok):Gives («bytes.__lt__» ⟨[.bytes b t,.bytes c u],[]⟩) (.val (.bool (bltB b.toList c.toList))):=by
 refine .of_wp λM A E s Q hq=>?_
 show wpAny M A (isInstance (.bytes c u) (.type "bytes") >>= λr=>_) _ E s
 refine wpAny_bind (wpAny_isInstance (typeIs_bytes s c u) PySem.F.sub_bytes_bytes ?_)
 exact wpAny_pure ⟨_,rfl,by rw [← order_lt] at hq;exact hq⟩
theorem gives_gt (b c:Array UInt8) (t u:Tok):Gives («bytes.__gt__» ⟨[.bytes b t,.bytes c u],[]⟩) (.val (.bool (bltB c.toList b.toList))):=by
 refine .of_wp λM A E s Q hq=>?_
 show wpAny M A (isInstance (.bytes c u) (.type "bytes") >>= λr=>_) _ E s
 refine wpAny_bind (wpAny_isInstance (typeIs_bytes s c u) PySem.F.sub_bytes_bytes ?_)
 exact wpAny_pure ⟨_,rfl,by rw [← order_gt] at hq;exact hq⟩
section
variable {prog:Program} {w:World} {A:Around} {E:Value→Shared→Prop} {s:Shared} {b c:Array UInt8} {t u:Tok}
theorem lt_bytes {Q:Value→Shared→Prop} (h:Q (.bool (bltB b.toList c.toList)) s):wpAny (model prog w) A (compareOp .Lt (.bytes b t) (.bytes c u)) Q E s :=
 compareOp_gives (op:=.Lt) (typeIs_bytes s b t) (typeIs_bytes s c u) slot_lt entry_lt (args_lt _ _) (gives_lt b c t u) (λe=>nomatch e) h
theorem gt_bytes {Q:Value→Shared→Prop} (h:Q (.bool (bltB c.toList b.toList)) s):wpAny (model prog w) A (compareOp .Gt (.bytes b t) (.bytes c u)) Q E s :=
 compareOp_gives (op:=.Gt) (typeIs_bytes s b t) (typeIs_bytes s c u) slot_gt entry_gt (args_gt _ _) (gives_gt b c t u) (λe=>nomatch e) h
end
end Mine
end
section
open PySem PySem.W PyProof.Rows PySem.Calls
set_option maxRecDepth 100000
namespace Mine
theorem eqAt_bytes {A:Around} {s:Shared} (a:Array UInt8) (t:Tok) (b:Array UInt8) (u:Tok):SeqAt.EqAt A s (.bytes a t) (.bytes b u) (a.toList == b.toList):=λprog w E Q h=>by
 unfold eqBool
 refine wpAny_holding ?_
 by_cases e:(Value.bytes a t == Value.bytes b u)=true
 ·have:a=b:=by have:=eq_of_beq e;injection this
  subst this
  rw [if_pos e]
  have:(a.toList == a.toList)=true:=by exact beq_self_eq_true _
  rw [this] at h
  exact wpAny_bind (wpAny_rule (wpAny_pure h))
 ·rw [if_neg e]
  refine wpAny_bind (m:=richCompare .Eq (.bytes a t) (.bytes b u)) (eq_bytes (Q:=λv s'=>wpAny (model prog w) A (truthOfDropped v) Q E s') ?_)
  generalize (a.toList == b.toList)=q at h ⊢
  induction q <;> exact wpAny_truthy_bool h
theorem veq_at {φ:List Addr} {u v:V} {b:Bool} (h:veq u v=some b) {a c:Value} (ha:VR φ u a) (hc:VR φ v c) (A:Around) (s:Shared):SeqAt.EqAt A s a c b:=by
 induction u <;> induction v <;> first | exact nomatch (show Option.none=some b from h) | skip
 ·cases h;cases ha;cases hc;exact SeqAt.EqAt.same _
 ·cases h;cases ha;obtain ⟨t,rfl⟩:=hc;exact SeqAt.EqAt.none_int _ _
 ·cases h;cases ha;cases hc;exact SeqAt.EqAt.bool_bool _ _
 ·cases h;obtain ⟨t,rfl⟩:=ha;cases hc;exact SeqAt.EqAt.int_none _ _
 ·cases h;obtain ⟨t,rfl⟩:=ha;obtain ⟨t',rfl⟩:=hc;exact SeqAt.EqAt.int_int _ _ _ _
 ·cases h;obtain ⟨t,rfl⟩:=ha;obtain ⟨t',rfl⟩:=hc;exact eqAt_bytes _ _ _ _
theorem veqs_inv {x y:V} {l r:List V} {b:Bool} (h:veqs (x :: l) (y :: r)=some b):Ex2 λq1 q2=>And3 (veq x y=some q1) (veqs l r=some q2) ((q1 && q2)=b):=by
 revert h
 show (match veq x y,veqs l r with | some x,some y=>some (x && y) | _,_=>Option.none)=some b→_
 cases veq x y <;> cases veqs l r <;> intro h <;> first | exact nomatch (show Option.none=some b from h) | exact ⟨_,_,rfl,rfl,Option.some.inj h⟩
noncomputable def EqsAt (vs ws:List Value) (b:Bool):Prop:=vs.length=ws.length∧∃ e:Nat→Bool,(∀ (A:Around) (s:Shared) j (h1:j < vs.length) (h2:j < ws.length),SeqAt.EqAt A s vs[j] ws[j] (e j))∧((List.range vs.length).all e)=b
theorem veqs_spec {φ:List Addr} {l r:List V} {b:Bool} (h:veqs l r=some b) {vs ws:List Value} (ha:VRs φ l vs) (hb:VRs φ r ws):EqsAt vs ws b:=by
 refine VRs.ind (p:=λl vs=>∀ (r:List V) (b:Bool) (ws:List Value),veqs l r=some b→VRs φ r ws→EqsAt vs ws b) (λr b ws h hb=>?_) (λx u l vs ha _ ih r b ws h hb=>?_) l vs ha r b ws h hb
 ·cases r with
  | cons=>exact nomatch (show Option.none=some b from h)
  | nil=>cases ws with
   | cons=>exact hb.elim
   | nil=>exact ⟨rfl,λ_=>true,λ_ _ j h1=>absurd h1 (Nat.not_lt_zero _),Option.some.inj h⟩
 ·cases r with
  | nil=>exact nomatch (show Option.none=some b from h)
  | cons y r=>cases ws with
   | nil=>exact hb.elim
   | cons v ws =>
    obtain ⟨q1,q2,h1,h2,h3⟩:=veqs_inv h
    obtain ⟨hl,e,he,hall⟩:=ih r q2 ws h2 hb.2
    refine ⟨congrArg (· + 1) hl,λj=>Nat.casesOn j q1 e,λA s j h1' h2'=>?_,?_⟩
    ·cases j with
     | zero=>exact veq_at h1 ha hb.1 A s
     | succ j=>exact he A s j (Nat.lt_of_succ_lt_succ h1') (Nat.lt_of_succ_lt_succ h2')
    ·rw [List.length_cons,List.range_succ_eq_map,List.all_cons,List.all_map,← h3,← hall]
     rfl
theorem veqH_inv {u v:V} {H:Hp} {b:Bool} (h:veqH u v H=some b):(Ex4 λx y l r=>And5 (u = .ref x) (v = .ref y) (H[x]?=some (.tuple l)) (H[y]?=some (.tuple r)) (veqs l r=some b))∨veq u v=some b:=by
 cases u with
 | ref x=>cases v with
  | ref y =>
   refine .inl ?_
   revert h
   show (match H[x]?,H[y]? with | some (.tuple l),some (.tuple r)=>veqs l r | _,_=>Option.none)=some b→_
   cases hx:H[x]? with
   | none=>exact λh=>nomatch (show Option.none=some b from h)
   | some o =>
    induction o <;> first | exact λh=>nomatch (show Option.none=some b from h) | skip
    cases hy:H[y]? with
    | none=>exact λh=>nomatch (show Option.none=some b from h)
    | some o=>induction o <;> first | exact λh=>nomatch (show Option.none=some b from h) | exact λh=>⟨_,_,_,_,rfl,rfl,hx,hy,h⟩
  | _=>exact .inr h
 | _=>exact .inr h
theorem cmp1_inv {f:Int→Int→Bool} {u v:V} {b:Bool} (h:cmp1 f u v=some b):Ex2 λi j=>And3 (u = .int i) (v = .int j) (f i j=b):=by
 cases u with
 | int i=>cases v with
  | int j=>exact ⟨i,j,rfl,rfl,Option.some.inj h⟩
  | _=>exact nomatch (show Option.none=some b from h)
 | _=>exact nomatch (show Option.none=some b from h)
theorem cmp2_inv {f:Int→Int→Bool} {g:List UInt8→List UInt8→Bool} {u v:V} {b:Bool} (h:cmp2 f g u v=some b):(Ex2 λi j=>And3 (u = .int i) (v = .int j) (f i j=b))∨(Ex2 λi j=>And3 (u = .bytes i) (v = .bytes j) (g i j=b)):=by
 cases u with
 | int i=>cases v with
  | int j=>exact .inl ⟨i,j,rfl,rfl,Option.some.inj h⟩
  | _=>exact nomatch (show Option.none=some b from h)
 | bytes i=>cases v with
  | bytes j=>exact .inr ⟨i,j,rfl,rfl,Option.some.inj h⟩
  | _=>exact nomatch (show Option.none=some b from h)
 | _=>exact nomatch (show Option.none=some b from h)
section
variable {prog:Program} {w:World} {K:Frag} {p:Program} {loose:List Str} {mg mb:Str→Option Value} {A A₀:Around} {base h₀:Heap} {outer:List Env} {env:Env} {L:Addr} {d:Nat} {nm:Nat→Str} {ca:CA} {T:Tb}
theorem h_cop (hu:A.units < cLine) {op:Cop} (u v:V) (H:Hp) (b:Bool) (h:cop op u v H=some b) (s:Shared) (m:Str→Option Value) (R:List RO) (X:List (Addr × Obj)) (a c:Value) (Q:Value→Shared→Prop) (E:Value→Shared→Prop)
  (hR:Rep w.params nm ca h₀ L X m s.heap R H) (ha:VR (ads R) u a) (hc:VR (ads R) v c) (k:∀ tk,Q (.bool b) { s with toks:=tk }):wpAny (model prog w) A (compareOp (copOf op) a c) Q E s:=by
 have k:=k s.toks
 have tups:∀ {x y:Nat} {l r:List V} {b:Bool},H[x]?=some (.tuple l)→H[y]?=some (.tuple r)→veqs l r=some b→VR (ads R) (.ref x) a→VR (ads R) (.ref y) c→Ex5 fun (t t':Addr) (vs ws:List Value) (e:Nat→Bool)=>And6 (a = .ref t) (c = .ref t') (IsTup s.heap t vs.toArray) (IsTup s.heap t' ws.toArray) ((∀ (A:Around) (s:Shared) j (h1:j < vs.toArray.size) (h2:j < ws.toArray.size),SeqAt.EqAt A s vs.toArray[j] ws.toArray[j] (e j))) (((List.range (min vs.toArray.size ws.toArray.size)).all e && vs.toArray.size == ws.toArray.size)=b):=by
  intro x y l r b hx hy hv ha hc
  obtain ⟨t,vs,rfl,h1,t1⟩:=hR.getTup hx ha
  obtain ⟨t',ws,rfl,h2,t2⟩:=hR.getTup hy hc
  obtain ⟨hl,e,he,hall⟩:=veqs_spec hv h1 h2
  refine ⟨t,t',vs,ws,e,rfl,rfl,t1,t2,λA s j h1 h2=>he A s j (by exact h1) (by exact h2),?_⟩
  simp only [List.size_toArray,hl,Nat.min_self,beq_self_eq_true,Bool.and_true]
  rw [← hl];exact hall
 have eqs:∀ {b:Bool},veqH u v H=some b→(Ex5 fun (e:Nat→Bool) (t t':Addr) (vs ws:List Value)=>And6 (a = .ref t) (c = .ref t') (IsTup s.heap t vs.toArray) (IsTup s.heap t' ws.toArray) ((∀ (A:Around) (s:Shared) j (h1:j < vs.toArray.size) (h2:j < ws.toArray.size),SeqAt.EqAt A s vs.toArray[j] ws.toArray[j] (e j))) (((List.range (min vs.toArray.size ws.toArray.size)).all e && vs.toArray.size == ws.toArray.size)=b))∨veq u v=some b:=by
  intro b h
  rcases veqH_inv h with ⟨x,y,l,r,rfl,rfl,hx,hy,hh⟩ | h
  ·obtain ⟨t,t',vs,ws,e,q⟩:=tups hx hy hh ha hc
   exact .inl ⟨e,t,t',vs,ws,q⟩
  ·exact .inr h
 cases op with
 | eq =>
  rcases eqs h with ⟨e,t,t',vs,ws,rfl,rfl,t1,t2,he,hb⟩ | h
  ·exact SeqAt.eq_tupleAt t1 t2 hu (λj h1 h2=>he _ _ j h1 h2) (by rw [hb];exact k)
  ·exact veq_ok h ha hc k
 | ne =>
  obtain ⟨b',hb',rfl⟩:=Option.map_eq_some_iff.mp h
  rcases eqs hb' with ⟨e,t,t',vs,ws,rfl,rfl,t1,t2,he,hb⟩ | h
  ·exact SeqAt.RcNeAt.tuples t1 t2 hu (λj h1 h2=>he _ _ j h1 h2) prog w E Q (by rw [hb];exact k)
  ·exact vne_ok h ha hc k
 | lt =>
  rcases cmp2_inv h with ⟨i,j,rfl,rfl,rfl⟩ | ⟨i,j,rfl,rfl,rfl⟩
  ·obtain ⟨t,rfl⟩:=ha;obtain ⟨t',rfl⟩:=hc;exact lt_int k
  ·obtain ⟨t,rfl⟩:=ha;obtain ⟨t',rfl⟩:=hc;exact lt_bytes k
 | gt =>
  rcases cmp2_inv h with ⟨i,j,rfl,rfl,rfl⟩ | ⟨i,j,rfl,rfl,rfl⟩
  ·obtain ⟨t,rfl⟩:=ha;obtain ⟨t',rfl⟩:=hc;exact gt_int k
  ·obtain ⟨t,rfl⟩:=ha;obtain ⟨t',rfl⟩:=hc;exact gt_bytes k
 | le =>
  obtain ⟨i,j,rfl,rfl,rfl⟩:=cmp1_inv h
  obtain ⟨t,rfl⟩:=ha;obtain ⟨t',rfl⟩:=hc;exact le_int k
 | ge =>
  obtain ⟨i,j,rfl,rfl,rfl⟩:=cmp1_inv h
  obtain ⟨t,rfl⟩:=ha;obtain ⟨t',rfl⟩:=hc;exact ge_int k
theorem s_cmp (hu:A.units < cLine) {op:Cop} {ra rb:En→Hp→Option (V × Hp)} {l r:PySem.Expr} {pos:Pos} (ha:SoundAt prog w nm ca A h₀ L env T ra (eval l env)) (hb:SoundAt prog w nm ca A h₀ L env T rb (eval r env))
  (hm:behindInMarks (copOf op) r=false) :
  SoundAt prog w nm ca A h₀ L env T (λe H=>match ra e H with
   | some (u,H)=>match rb e H with
    | some (v,H)=>(cop op u v H).map λb=>(.bool b,H)
    | _=>Option.none
   | _=>Option.none) (eval (.Compare l [copOf op] [r] pos) env) :=
 s_two (f:=λu v H=>(cop op u v H).map λb=>(.bool b,H)) (g:=λa b=>compareOp (copOf op) a b) ha hb (λu v H r H' h s m R X a b Q E hR hva hvb k=>by
  obtain ⟨q,hq,e⟩:=Option.map_eq_some_iff.mp h
  cases e
  exact h_cop hu u v H q hq s m R X a b Q E hR hva hvb λtk=>k s.heap tk R _ hR (List.prefix_refl _) rfl) λs Q E h=>wpAny_Compare1 h hm
end
structure FldOk (K:Frag) (C:Addr) (x:Str):Prop where
 hg:plainGet K C x=true
 hh:hasDictIn K C=true
 ha:∃ attr,findIn K (.ref C) x=some attr∧noGet K attr=true
 hs:findIn K (.ref C) "__setattr__"=some (some (.builtin "object.__setattr__"))
 hp:plainOver K C=true
 ht:takerIn K C x=some none
structure MethOk (K:Frag) (C:Addr) (x:Str) (f:Addr):Prop where
 hg:plainGet K C x=true
 hf:findIn K (.ref C) x=some (some (.ref f))
 ht:isFn K (.ref f)=true
 hk:keepIn K (.ref f)=true
noncomputable def NmOk (nm:Nat→Str):Prop:=∀ i j,i < 100→j < 100→nm i=nm j→i=j
theorem isStr_eq {x y:Str} {t:Tok}:(Value.str x t).isStr y=(x == y):=rfl
theorem handed_VR {φ:List Addr} {v:V} {u:Value} (h:VR φ v u):handedIn u=true:=by
 induction v <;> first | (cases h;rfl) | (obtain ⟨t,rfl⟩:=h;rfl) | (obtain ⟨a,_,rfl⟩:=h;rfl)
section
variable {P:Params} {nm:Nat→Str} (hn:NmOk nm)
include hn
theorem str_no {n k:Nat} (hN:n < 100) (hk:k < 100) (q:¬ k=n) {e:DictEntry} (ht:∃ t,e.key = .str (nm k) t):e.key.isStr (nm n)=false:=by
 obtain ⟨t,ht⟩:=ht
 rw [ht,isStr_eq]
 exact beq_eq_false_iff_ne.mpr λz=>q (hn k n hk hN z)
omit hn in
theorem str_yes {k:Nat} {e:DictEntry} (ht:∃ t,e.key = .str (nm k) t):e.key.isStr (nm k)=true:=by
 obtain ⟨t,ht⟩:=ht
 rw [ht,isStr_eq];exact beq_self_eq_true _
theorem getL_of {φ:List Addr} {n:Nat} (hN:n < 100) {fs:List (Nat × V)} {es:List DictEntry} (h:FR P nm φ fs es):∀ {v:V},getF n fs=some v→∃ u,getL (nm n) es=some (some u)∧VR φ v u :=
 FR.ind (p:=λfs es=>∀ {v:V},getF n fs=some v→∃ u,getL (nm n) es=some (some u)∧VR φ v u) (λhv=>nomatch hv) (λk x fs e es hb ht hh hx hr ih {v} hv=>by
  have hv:(if k=n then some x else getF n fs)=some v:=hv
  by_cases q:k=n
  ·rw [if_pos q] at hv
   cases hv
   refine ⟨e.val,?_,hx⟩
   unfold getL
   rw [List.find?_cons,str_yes (q ▸ ht)]
  ·rw [if_neg q] at hv
   obtain ⟨u,hu,hr'⟩:=ih hv
   refine ⟨u,?_,hr'⟩
   unfold getL at hu ⊢
   rw [List.find?_cons,str_no hn hN hb q ht]
   dsimp only
   cases hf:es.find? λe=>e.key.isStr (nm n) with
   | some e'=>rw [hf] at hu;exact hu
   | none =>
    rw [hf] at hu
    dsimp only at hu
    split at hu <;> cases hu) fs es h
theorem getL_none {φ:List Addr} {n:Nat} (hN:n < 100) {fs:List (Nat × V)} {es:List DictEntry} (h:FR P nm φ fs es):getF n fs=none→getL (nm n) es=some none∧es.any (·.refKey)=false :=
 FR.ind (p:=λfs es=>getF n fs=none→getL (nm n) es=some none∧es.any (·.refKey)=false) (λ_=>⟨rfl,rfl⟩) (λk x fs e es hb ht hh hx hr ih hv=>by
  have hv:(if k=n then some x else getF n fs)=none:=hv
  by_cases q:k=n
  ·rw [if_pos q] at hv;cases hv
  ·rw [if_neg q] at hv
   obtain ⟨h1,h2⟩:=ih hv
   have e2:e.refKey=false:=by
    obtain ⟨t,ht⟩:=ht
    unfold DictEntry.refKey;rw [ht]
   have h3:(e :: es).any (·.refKey)=false:=by rw [List.any_cons,e2,h2];rfl
   refine ⟨?_,h3⟩
   unfold getL at h1 ⊢
   rw [List.find?_cons,str_no hn hN hb q ht]
   dsimp only
   cases hf:es.find? λe=>e.key.isStr (nm n) with
   | some e'=>rw [hf] at h1;cases h1
   | none=>dsimp only;rw [h3];rfl) fs es h
theorem putL_of {φ:List Addr} {n:Nat} {v:V} {u:Value} {t:Tok} (hv:VR φ v u) (hN:n < 100) {fs:List (Nat × V)} {es:List DictEntry} (h:FR P nm φ fs es) :
  FR P nm φ (setF n v fs) (putL (nm n) (PyData.keyHash P (nm n)) (.str (nm n) t) u es)∧(putL (nm n) (PyData.keyHash P (nm n)) (.str (nm n) t) u es).length ≤ es.length + 1 :=
 FR.ind (p:=λfs es=>FR P nm φ (setF n v fs) (putL (nm n) (PyData.keyHash P (nm n)) (.str (nm n) t) u es)∧(putL (nm n) (PyData.keyHash P (nm n)) (.str (nm n) t) u es).length ≤ es.length + 1)
  ⟨⟨hN,⟨t,rfl⟩,rfl,hv,trivial⟩,Nat.le_refl _⟩ (λk x fs e es hb ht hh hx hr ih=>by
   have e1:setF n v ((k,x) :: fs)=if k=n then (n,v) :: fs else (k,x) :: setF n v fs:=rfl
   rw [e1]
   by_cases q:k=n
   ·subst q
    have e2:putL (nm k) (PyData.keyHash P (nm k)) (.str (nm k) t) u (e :: es) = { e with val:=u } :: es:=if_pos (str_yes ht)
    rw [if_pos rfl,e2]
    exact ⟨⟨hb,ht,hh,hv,hr⟩,Nat.le_succ _⟩
   ·have e2:putL (nm n) (PyData.keyHash P (nm n)) (.str (nm n) t) u (e :: es)=e :: putL (nm n) (PyData.keyHash P (nm n)) (.str (nm n) t) u es:=if_neg (by rw [str_no hn hN hb q ht];exact Bool.false_ne_true)
    rw [if_neg q,e2]
    exact ⟨⟨hb,ht,hh,hx,ih.1⟩,Nat.succ_le_succ ih.2⟩) fs es h
end
noncomputable def starLike (e:PySem.Expr):Bool:=e.ctorIdx == 22
noncomputable def sliceLike (e:PySem.Expr):Bool:=e.ctorIdx == 26
theorem starEach_cons {e:PySem.Expr} (h:starLike e=false) (rest:List PySem.Expr) (env:Env):starEach (e :: rest) env=(false,eval e env) :: starEach rest env:=by
 induction e using PySem.Expr.casesOn <;> first | rfl | exact nomatch (show true=false from h)
theorem starEach_any {pos:Pos} {env:Env}:∀ {l:List PySem.Expr},(∀ e ∈ l,starLike e=false)→(backTo pos (starEach l env)).any (·.1)=false
 | [],_=>rfl
 | e :: l,h=>by
  rw [starEach_cons (h e (.head _))]
  show (false || (backTo pos (starEach l env)).any (·.1))=false
  rw [starEach_any λq hq=>h q (.tail _ hq)];rfl
theorem callW {M:Model} {A:Around} {E:Value→Shared→Prop} {s:Shared} {env:Env} {P:Heap→Prop} {f:Value} {first:List Value} {args:List PySem.Expr} {pos:Pos} {Q:Value→Shared→Prop}
  (hk:∀ h,P h→∃ k,(k=Keeper.frame∨k=Keeper.machine∨k=Keeper.boundFrame)∧Looks M h (keeperOf f) k) (hs:∀ e ∈ args,starLike e=false)
  (h:wpAny M A (spliced (backTo pos (starEach args env))) (λvs s₁=>P s₁.heap∧wpAny M A (call f (first ++ vs)) Q E s₁) E s):wpAny M A (callWith pos f first (backTo pos (starEach args env)) []) Q E s:=by
 cases args with
 | nil=>exact λΓ q hΓ=>(callWith_of rfl hk (evalArgs_nil3 (show P s.heap∧wpAny M A (call f (first ++ [])) Q E s from h Γ q hΓ))) Γ q hΓ
 | cons e rest =>
  rw [starEach_cons (hs e (.head _))] at h ⊢
  refine callWith_of ?_ hk (evalArgs_plain h)
  show ((false || (backTo pos (starEach rest env)).any (·.1)) || false)=false
  rw [starEach_any λq hq=>hs q (.tail _ hq)];rfl
theorem looks_machine {M:Model} {h:Heap} {f:Value} (hf:∀ a,f ≠ .ref a):Looks M h (keeperOf f) Keeper.machine:=by
 refine Looks.of_pure ?_
 unfold keeperOf
 induction f <;> first | rfl | exact absurd rfl (hf _)
noncomputable def SoundsAt (prog:Program) (w:World) (nm:Nat→Str) (ca:CA) (A:Around) (h₀:Heap) (L:Addr) (env:Env) (T:Tb) (r:En→Hp→Option (List V × Hp)) (t:Sem (List Value)):Prop :=
 ∀ (e:En) (H:Hp) (v:List V) (H':Hp),r e H=some (v,H')→∀ (s:Shared) (m:Str→Option Value) (R:List RO) (X:List (Addr × Obj)) (Q:List Value→Shared→Prop) (E:Value→Shared→Prop),
  Rep w.params nm ca h₀ L X m s.heap R H→EnvN T env L X m (ads R) e →
  (∀ h' tk R' u,Rep w.params nm ca h₀ L X m h' R' H'→ads R <+: ads R'→VRs (ads R') v u→Q u { s with heap:=h',toks:=tk }) →
  wpAny (model prog w) A t Q E s
section
variable {prog:Program} {w:World} {K:Frag} {p:Program} {loose:List Str} {mg mb:Str→Option Value} {A A₀:Around} {base h₀:Heap} {outer:List Env} {env:Env} {L:Addr} {d:Nat} {nm:Nat→Str} {ca:CA} {T:Tb}
theorem ss_nil {pos:Pos}:SoundsAt prog w nm ca A h₀ L env T (λ_ H=>some ([],H)) (spliced (backTo pos (starEach [] env))):=by
 intro e H v H' hv s m R X Q E hR hE k
 cases hv
 exact spliced_none (k s.heap s.toks R [] hR (List.prefix_refl _) trivial)
theorem ss_cons {ra:En→Hp→Option (V × Hp)} {rs:En→Hp→Option (List V × Hp)} {x:PySem.Expr} {l:List PySem.Expr} {pos:Pos} (hx:starLike x=false)
  (ha:SoundAt prog w nm ca A h₀ L env T ra (eval x env)) (hs:SoundsAt prog w nm ca A h₀ L env T rs (spliced (backTo pos (starEach l env)))) :
  SoundsAt prog w nm ca A h₀ L env T (λe H=>match ra e H with
   | some (v,H)=>match rs e H with
    | some (vs,H)=>some (v :: vs,H)
    | _=>Option.none
   | _=>Option.none) (spliced (backTo pos (starEach (x :: l) env))):=by
 intro e H v H' hv s m R X Q E hR hE k
 dsimp only at hv
 obtain ⟨u,H1,h1,hv⟩:=invV hv
 obtain ⟨us,H2,h2,hv⟩:=invVs hv
 obtain ⟨rfl,rfl⟩:u :: us=v∧H2=H':=some2 hv
 refine spliced_more ?_ (starEach_cons hx _ _)
 refine ha e H u H1 h1 s m R X _ _ hR hE λh' tk R' a hR' e1 va=>?_
 refine hs e H1 us H2 h2 _ m R' X _ _ hR' (hE.mono e1) λh'' tk' R'' b hR'' e2 vb=>?_
 exact k h'' tk' R'' (a :: b) hR'' (e1.trans e2) ⟨va.mono e2,vb⟩
theorem bname (C:Cx0 K p loose mg mb A h₀ env L) {x:Str} {v:Value} {pos:Pos} (hk:T.names=env.scope.names) (h:T.glb x=true) (hx:nsIn K mainGlobals x=some none) (hv:bootBuiltins x=some v) (hne:x ≠ "__name__")
  {s:Shared} {m:Str→Option Value} {Q:Value→Shared→Prop} {E:Value→Shared→Prop} (F:Fr h₀ L s.heap m) (q:Q v s):wpAny (model prog w) A (eval (.Name x pos) env) Q E s:=by
 obtain ⟨h2,h3⟩:=glb_of h
 exact Name_function_global C.hk (by unfold Env.kindOf;rw [← hk];exact h2) (loadGlobal_builtin (by rw [C.hg];exact C.T.g.keeps F.keep) (mg_none_of C.X C.T.g hx) (by rw [C.hb];exact C.T.b.keeps F.keep) ((C.T.builtins x hne).trans hv) q) h3
theorem s_attr (C:Cx0 K p loose mg mb A h₀ env L) (hn:NmOk nm) {fld:Nat→Nat→Bool} (hF:∀ c n,fld c n=true→FldOk K (ca c) (nm n)) {ra:En→Hp→Option (V × Hp)} {x:PySem.Expr} {pos:Pos} {n:Nat} (hN:n < 100)
  (hs:superLike x=false) (ha:SoundAt prog w nm ca A h₀ L env T ra (eval x env)) :
  SoundAt prog w nm ca A h₀ L env T (λe H=>match ra e H with
   | some (u,H)=>(attrOf fld u n H).map λv=>(v,H)
   | _=>Option.none) (eval (.Attribute x (nm n) pos) env):=by
 refine s_one (f:=λu H=>(attrOf fld u n H).map λv=>(v,H)) (g:=λv=>getAttr v (nm n) true) ha (λu H r H' h s m R X a Q E hR hv k=>?_) λs Q E h=>?_
 ·obtain ⟨b,hb,e⟩:=Option.map_eq_some_iff.mp h
  cases e
  unfold attrOf at hb
  split at hb
  ·split at hb
   ·split at hb
    ·rename_i c fs hi hc
     obtain ⟨x,dx,es,ne,rfl,e1,hfr,I⟩:=hR.getInst hi hv
     obtain ⟨u,hu,hr⟩:=getL_of hn hN hfr hb
     obtain ⟨attr,f1,f2⟩:=(hF _ _ hc).ha
     exact get_own hR.F C.X I (hF _ _ hc).hg (hF _ _ hc).hh f1 f2 hu (handed_VR hr) (k s.heap _ R _ hR (List.prefix_refl _) hr)
    ·cases hb
   ·cases hb
  ·cases hb
 ·show wpAny _ _ (attributeBase x (nm n) env (eval x env) >>= λo=>standAt pos.atName >>= λ_=>holding [o] (getAttr o (nm n) true) >>= λr=>letTemporaryGo x o r >>= λ_=>pure r) _ _ _
  exact wpAny_bind (attrBase_wp hs (wpAny_mono h (λa s' q=>wpAny_bind (wpAny_standAt (wpAny_bind (wpAny_holding (wpAny_mono q (λr s'' q'=>wpAny_bind (wpAny_letTemporaryGo (wpAny_pure q'))) λ_ _ z=>z))))) λ_ _ z=>z))
theorem subscripted_plain {slice:PySem.Expr} (h:sliceLike slice=false) (o i:Value):subscripted slice false o i=operate [o,i] (getItem o i):=by
 induction slice using PySem.Expr.casesOn <;> first | rfl | exact nomatch (show true=false from h)
theorem place_nat {i:Int} {n j:Nat} (h:place i n=some j) (hn:n < capL):-(2 ^ 63) ≤ i∧i < 2 ^ 63∧seqIndex? i n=some j∧j < n:=by
 unfold place at h
 unfold capL at *
 split at h
 ·cases h
  rename_i q
  exact ⟨by omega,by omega,PySem.seqIndex_of q.1 q.2,by lia⟩
 ·split at h
  ·cases h
   rename_i q1 q
   refine ⟨by omega,by omega,?_,by lia⟩
   unfold seqIndex?
   rw [if_pos q.1]
   dsimp only
   rw [if_pos (by simp only [Bool.and_eq_true,decide_eq_true_eq];lia)]
  ·cases h
theorem getItem_listX {l:Addr} {items:Array Value} {k:Int} {t:Tok} {x:Value} {j:Nat} {s:Shared} {Q:Value→Shared→Prop} {E:Value→Shared→Prop} (hl:s.heap.IsList l items) (h0:-(2 ^ 63) ≤ k) (h1:k < 2 ^ 63)
  (hj:seqIndex? k items.size=some j) (hx:items[j]?=some x) (h:Q x s):wpAny (model prog w) A (getItem (.ref l) (.int k t)) Q E s:=by
 unfold seqIndex? at hj
 by_cases q:k < 0
 ·rw [if_pos q] at hj
  dsimp only at hj
  split at hj
  ·rename_i z
   simp only [Bool.and_eq_true,decide_eq_true_eq] at z
   cases hj
   exact wpAny_getItem_list_neg hl q (by lia) h0 hx h
  ·cases hj
 ·rw [if_neg q] at hj
  dsimp only at hj
  split at hj
  ·cases hj
   exact wpAny_getItem_list hl (by exact Int.not_lt.mp ‹_›) h1 hx h
  ·cases hj
theorem h_getIdx {slice value:PySem.Expr} (hs:sliceLike slice=false) (u i:V) (H:Hp) (r:V) (H':Hp) (h:(getIdx u i H).map (λv=>(v,H))=some (r,H')) (s:Shared) (m:Str→Option Value) (R:List RO) (X:List (Addr × Obj)) (a b:Value) (Q:Value→Shared→Prop) (E:Value→Shared→Prop)
  (hR:Rep w.params nm ca h₀ L X m s.heap R H) (ha:VR (ads R) u a) (hb:VR (ads R) i b)
  (k:∀ h' tk R' y,Rep w.params nm ca h₀ L X m h' R' H'→ads R <+: ads R'→VR (ads R') r y→Q y { s with heap:=h',toks:=tk }) :
  wpAny (model prog w) A (subscriptTail value slice a b) Q E s:=by
 obtain ⟨v,hv,e⟩:=Option.map_eq_some_iff.mp h
 cases e
 have hsub:=subscripted_plain hs a b
 unfold getIdx at hv
 split at hv
 ·rename_i b' k'
  obtain ⟨t,rfl⟩:=ha
  obtain ⟨t',rfl⟩:=hb
  obtain ⟨j,hj,hv⟩:=Option.bind_eq_some_iff.mp hv
  split at hj
  ·rename_i hc
   obtain ⟨c,hx,rfl⟩:=Option.map_eq_some_iff.mp hv
   cases hj
   refine tail_any (typeIs_bytes _ _ _) FB.slot_bytes_getitem.lookup (getItem_bytes (by have:=hc.2.2;unfold capL at this;lia) hc.1 hc.2.1 ?_) hsub
   refine k s.heap _ R _ hR (List.prefix_refl _) ⟨s.toks,?_⟩
   rw [List.getD_eq_getElem?_getD,hx];rfl
  ·cases hj
 ·rename_i q k'
  obtain ⟨t',rfl⟩:=hb
  split at hv
  ·rename_i l hl
   obtain ⟨x,vs,n,rfl,e1,hvs,L1⟩:=hR.getList hl ha
   split at hv
   ·rename_i hc
    obtain ⟨j,hj,hx⟩:=Option.bind_eq_some_iff.mp hv
    obtain ⟨p1,p2,p3,p4⟩:=place_nat hj hc
    obtain ⟨y,hy,hr⟩:=hvs.get hx
    refine tail_any L1.typeIs slot_list_getitem.lookup (getItem_listX L1 p1 p2 (by simpa [← hvs.length] using p3) (by simpa using hy) ?_) hsub
    exact k s.heap _ R _ hR (List.prefix_refl _) hr
   ·cases hv
  ·rename_i l hl
   obtain ⟨x,vs,rfl,hvs,L1⟩:=hR.getTup hl ha
   split at hv
   ·rename_i hc
    obtain ⟨j,hj,hx⟩:=Option.bind_eq_some_iff.mp hv
    obtain ⟨p1,p2,p3,p4⟩:=place_nat hj hc
    obtain ⟨y,hy,hr⟩:=hvs.get hx
    refine item_tupleT L1 p1 p2 (by simpa [← hvs.length] using p3) (by simpa using hy) ?_ hsub
    exact k s.heap _ R _ hR (List.prefix_refl _) hr
   ·cases hv
  ·cases hv
 ·cases hv
end
end Mine
end
section
open PySem PySem.W PyProof.Rows PySem.Calls
open PyProof.Rows.LSm
set_option maxRecDepth 100000
namespace Mine
theorem contains_any (k:Int):∀ ns:List Int,ns.any (· == k)=ns.contains k
 | []=>rfl
 | n :: ns=>by rw [List.any_cons,List.contains_cons,contains_any k ns,Bool.beq_comm]
theorem bools_are {φ:List Addr} {l:List V} {vs:List Value} {bs:List Bool} (hv:VRs φ l vs) (h:bools? l=some bs):BoolsAre vs bs :=
 VRs.ind (p:=λl vs=>∀ ns,bools? l=some ns→BoolsAre vs ns) (λns h=>by cases h;exact .nil) (λv u l vs hv _ ih ns h=>by
  induction v <;> first | exact nomatch (show Option.none=some ns from h) | skip
  cases hv
  obtain ⟨q,hq,rfl⟩:=Option.map_eq_some_iff.mp h
  exact .cons _ (ih _ hq)) l vs hv bs h
section
variable {prog:Program} {w:World} {K:Frag} {p:Program} {loose:List Str} {mg mb:Str→Option Value} {A A₀:Around} {base h₀:Heap} {outer:List Env} {env:Env} {L:Addr} {d:Nat} {nm:Nat→Str} {ca:CA} {T:Tb}
theorem s_isNone {ra:En→Hp→Option (V × Hp)} {x:PySem.Expr} {k:Nat} {pos pos':Pos} (ha:SoundAt prog w nm ca A h₀ L env T ra (eval x env)) :
  SoundAt prog w nm ca A h₀ L env T (λe H=>match ra e H with
   | some (u,H)=>some (.bool (u == .none),H)
   | _=>Option.none) (eval (.Compare x [.Is] [.Constant .none k pos'] pos) env):=by
 refine s_one (f:=λu H=>some (.bool (u == .none),H)) (g:=λv=>compareOp .Is v .none) ha (λu H r H' h s m R X a Q E hR hv q=>?_) λs Q E h=>?_
 ·cases h
  refine is_none (q s.heap s.toks R _ hR (List.prefix_refl _) ?_)
  induction u <;> first | (cases hv;rfl) | (obtain ⟨t,rfl⟩:=hv;rfl) | (obtain ⟨a,_,rfl⟩:=hv;rfl)
 ·refine wpAny_Compare1 (wpAny_mono h (λa s' z=>?_) λ_ _ z=>z) rfl
  rw [eval_Constant];exact wpAny_pure z
theorem s_notNone {ra:En→Hp→Option (V × Hp)} {x:PySem.Expr} {k:Nat} {pos pos':Pos} (ha:SoundAt prog w nm ca A h₀ L env T ra (eval x env)) :
  SoundAt prog w nm ca A h₀ L env T (λe H=>match ra e H with
   | some (u,H)=>some (.bool (u != .none),H)
   | _=>Option.none) (eval (.Compare x [.IsNot] [.Constant .none k pos'] pos) env):=by
 refine s_one (f:=λu H=>some (.bool (u != .none),H)) (g:=λv=>compareOp .IsNot v .none) ha (λu H r H' h s m R X a Q E hR hv q=>?_) λs Q E h=>?_
 ·cases h
  refine isnot_none_gen (q s.heap s.toks R _ hR (List.prefix_refl _) ?_)
  induction u <;> first | (cases hv;rfl) | (obtain ⟨t,rfl⟩:=hv;rfl) | (obtain ⟨a,_,rfl⟩:=hv;rfl)
 ·refine wpAny_Compare1 (wpAny_mono h (λa s' z=>?_) λ_ _ z=>z) rfl
  rw [eval_Constant];exact wpAny_pure z
theorem s_isIn {ra rb:En→Hp→Option (V × Hp)} {l r:PySem.Expr} {pos:Pos} (ha:SoundAt prog w nm ca A h₀ L env T ra (eval l env)) (hb:SoundAt prog w nm ca A h₀ L env T rb (eval r env))
  (hm:behindInMarks .In r=false) :
  SoundAt prog w nm ca A h₀ L env T (λe H=>match ra e H with
   | some (u,H)=>match rb e H with
    | some (v,H)=>isInF u v H
    | _=>Option.none
   | _=>Option.none) (eval (.Compare l [.In] [r] pos) env):=by
 refine s_two (f:=isInF) (g:=λa b=>compareOp .In a b) ha hb (λu v H r H' h s m R X a b Q E hR hva hvb k=>?_) λs Q E h=>wpAny_Compare1 h hm
 unfold isInF at h
 split at h
 ·split at h
  ·rename_i l hl
   split at h
   ·obtain ⟨ns,hns,e⟩:=Option.map_eq_some_iff.mp h
    cases e
    obtain ⟨t,rfl⟩:=hva
    obtain ⟨x,vs,n,rfl,e1,hvs,L1⟩:=hR.getList hl hvb
    refine in_list_ints L1 (ints_are hvs hns) (k s.heap _ R _ hR (List.prefix_refl _) ?_)
    exact congrArg Value.bool (contains_any _ ns)
   ·cases h
  ·cases h
 ·cases h
theorem s_call1 (C:Cx0 K p loose mg mb A h₀ env L) {x:Str} {f:Value} {ra:En→Hp→Option (V × Hp)} {F:V→Hp→Option (V × Hp)} {e:PySem.Expr} {pos pos':Pos} (hk:T.names=env.scope.names) (h:T.glb x=true)
  (hx:nsIn K mainGlobals x=some none) (hv:bootBuiltins x=some f) (hne:x ≠ "__name__") (hf:∀ a,f ≠ .ref a) (hs:starLike e=false) (ha:SoundAt prog w nm ca A h₀ L env T ra (eval e env))
  (hF:∀ (u:V) (H:Hp) (r:V) (H':Hp),F u H=some (r,H')→∀ (s:Shared) (m:Str→Option Value) (R:List RO) (X:List (Addr × Obj)) (a:Value) (Q:Value→Shared→Prop) (E:Value→Shared→Prop),
   Rep w.params nm ca h₀ L X m s.heap R H→VR (ads R) u a →
   (∀ h' tk R' y,Rep w.params nm ca h₀ L X m h' R' H'→ads R <+: ads R'→VR (ads R') r y→Q y { s with heap:=h',toks:=tk })→wpAny (model prog w) A (call f [a]) Q E s) :
  SoundAt prog w nm ca A h₀ L env T (λe H=>match ra e H with
   | some (u,H)=>F u H
   | _=>Option.none) (eval (.Call (.Name x pos') [e] [] pos) env):=by
 intro e1 H v H' hv' s m R X Q E hR hE k
 dsimp only at hv'
 cases h1:ra e1 H with
 | none=>rw [h1] at hv';cases hv'
 | some q1 =>
  obtain ⟨u,H1⟩:=q1
  rw [h1] at hv'
  dsimp only at hv'
  refine Call_ (bname C hk h hx hv hne hR.F (callW (P:=λ_=>True) (λh _=>⟨_,.inr (.inl rfl),looks_machine hf⟩) (λq hq=>by rw [List.mem_singleton.mp hq];exact hs) ?_))
  refine spliced_more (ha e1 H u H1 h1 s m R X _ _ hR hE λh' tk R' a hR' p1 va=>spliced_none ⟨trivial,?_⟩) (starEach_cons hs _ _)
  exact hF u H1 v H' hv' _ m R' X a _ _ hR' va λh2 tk2 R2 y hR2 p2 vy=>k h2 tk2 R2 y hR2 (p1.trans p2) vy
theorem s_call2 (C:Cx0 K p loose mg mb A h₀ env L) {x:Str} {f:Value} {ra rb:En→Hp→Option (V × Hp)} {F:V→V→Hp→Option (V × Hp)} {e e2:PySem.Expr} {pos pos':Pos} (hk:T.names=env.scope.names) (h:T.glb x=true)
  (hx:nsIn K mainGlobals x=some none) (hv:bootBuiltins x=some f) (hne:x ≠ "__name__") (hf:∀ a,f ≠ .ref a) (hs:starLike e=false) (hs2:starLike e2=false) (ha:SoundAt prog w nm ca A h₀ L env T ra (eval e env)) (hb:SoundAt prog w nm ca A h₀ L env T rb (eval e2 env))
  (hF:∀ (u v:V) (H:Hp) (r:V) (H':Hp),F u v H=some (r,H')→∀ (s:Shared) (m:Str→Option Value) (R:List RO) (X:List (Addr × Obj)) (a b:Value) (Q:Value→Shared→Prop) (E:Value→Shared→Prop),
   Rep w.params nm ca h₀ L X m s.heap R H→VR (ads R) u a→VR (ads R) v b →
   (∀ h' tk R' y,Rep w.params nm ca h₀ L X m h' R' H'→ads R <+: ads R'→VR (ads R') r y→Q y { s with heap:=h',toks:=tk })→wpAny (model prog w) A (call f [a,b]) Q E s) :
  SoundAt prog w nm ca A h₀ L env T (λe H=>match ra e H with
   | some (u,H)=>match rb e H with
    | some (v,H)=>F u v H
    | _=>Option.none
   | _=>Option.none) (eval (.Call (.Name x pos') [e,e2] [] pos) env):=by
 intro e1 H v H' hv' s m R X Q E hR hE k
 dsimp only at hv'
 cases h1:ra e1 H with
 | none=>rw [h1] at hv';cases hv'
 | some q1 =>
  obtain ⟨u,H1⟩:=q1
  rw [h1] at hv'
  dsimp only at hv'
  cases h2:rb e1 H1 with
  | none=>rw [h2] at hv';cases hv'
  | some q2 =>
   obtain ⟨u2,H2⟩:=q2
   rw [h2] at hv'
   dsimp only at hv'
   refine Call_ (bname C hk h hx hv hne hR.F (callW (P:=λ_=>True) (λh _=>⟨_,.inr (.inl rfl),looks_machine hf⟩) (λq hq=>by
    rcases List.mem_cons.mp hq with rfl | hq
    ·exact hs
    ·rw [List.mem_singleton.mp hq];exact hs2) ?_))
   refine spliced_more (ha e1 H u H1 h1 s m R X _ _ hR hE λh' tk R' a hR' p1 va=>?_) (starEach_cons hs _ _)
   refine spliced_more (hb e1 H1 u2 H2 h2 _ m R' X _ _ hR' (hE.mono p1) λh3 tk3 R3 b hR3 p3 vb=>spliced_none ⟨trivial,?_⟩) (starEach_cons hs2 _ _)
   exact hF u u2 H2 v H' hv' _ m R3 X a b _ _ hR3 (va.mono p3) vb λh4 tk4 R4 y hR4 p4 vy=>k h4 tk4 R4 y hR4 ((p1.trans p3).trans p4) vy
theorem h_len (u:V) (H:Hp) (r:V) (H':Hp) (h:(lenOf u H).map (fun (n:Nat)=>(V.int n,H))=some (r,H')) (s:Shared) (m:Str→Option Value) (R:List RO) (X:List (Addr × Obj)) (a:Value) (Q:Value→Shared→Prop) (E:Value→Shared→Prop)
  (hR:Rep w.params nm ca h₀ L X m s.heap R H) (ha:VR (ads R) u a)
  (k:∀ h' tk R' y,Rep w.params nm ca h₀ L X m h' R' H'→ads R <+: ads R'→VR (ads R') r y→Q y { s with heap:=h',toks:=tk }):wpAny (model prog w) A (call (.builtin "len") [a]) Q E s:=by
 obtain ⟨n,hn,e⟩:=Option.map_eq_some_iff.mp h
 cases e
 have k0:∀ tk y,VR (ads R) (V.int n) y→Q y { s with toks:=tk }:=λtk y hy=>k s.heap tk R y hR (List.prefix_refl _) hy
 unfold lenOf at hn
 split at hn
 ·split at hn
  ·rename_i hc
   cases hn
   obtain ⟨t,rfl⟩:=ha
   refine len_bytes (by unfold capL at hc;simp;lia) (k0 _ _ ⟨_,by simp;rfl⟩)
  ·cases hn
 ·split at hn
  ·rename_i l hl
   split at hn
   ·rename_i hc
    cases hn
    obtain ⟨x,vs,n,rfl,e1,hvs,L1⟩:=hR.getList hl ha
    refine call_len_list L1 (by have:=hvs.length;unfold capL at hc;simp only [List.size_toArray];omega) (k0 _ _ ⟨s.toks + 1,?_⟩)
    simp [hvs.length]
   ·cases hn
  ·rename_i l hl
   split at hn
   ·rename_i hc
    cases hn
    obtain ⟨x,vs,rfl,hvs,L1⟩:=hR.getTup hl ha
    refine len_tuple L1 (by have:=hvs.length;unfold capL at hc;simp only [List.size_toArray];omega) (k0 _ _ ⟨s.toks + 1,?_⟩)
    simp [hvs.length]
   ·cases hn
  ·cases hn
 ·cases hn
theorem h_max (hh:A.handled=none) (i j:Int) (H:Hp) (s:Shared) (m:Str→Option Value) (R:List RO) (X:List (Addr × Obj)) (a b:Value) (Q:Value→Shared→Prop) (E:Value→Shared→Prop)
  (hR:Rep w.params nm ca h₀ L X m s.heap R H) (ha:VR (ads R) (.int i) a) (hb:VR (ads R) (.int j) b)
  (k:∀ h' tk R' y,Rep w.params nm ca h₀ L X m h' R' H→ads R <+: ads R'→VR (ads R') (.int (if i < j then j else i)) y→Q y { s with heap:=h',toks:=tk }):wpAny (model prog w) A (call (.builtin "max") [a,b]) Q E s:=by
 obtain ⟨t,rfl⟩:=ha
 obtain ⟨t',rfl⟩:=hb
 refine max_two_N hh hR.F hR.N λh' tk F' N'=>k h' tk R _ ⟨F',N',hR.nd,hR.hr⟩ (List.prefix_refl _) ⟨_,rfl⟩
theorem h_min (hh:A.handled=none) (i j:Int) (H:Hp) (s:Shared) (m:Str→Option Value) (R:List RO) (X:List (Addr × Obj)) (a b:Value) (Q:Value→Shared→Prop) (E:Value→Shared→Prop)
  (hR:Rep w.params nm ca h₀ L X m s.heap R H) (ha:VR (ads R) (.int i) a) (hb:VR (ads R) (.int j) b)
  (k:∀ h' tk R' y,Rep w.params nm ca h₀ L X m h' R' H→ads R <+: ads R'→VR (ads R') (.int (if j < i then j else i)) y→Q y { s with heap:=h',toks:=tk }):wpAny (model prog w) A (call (.builtin "min") [a,b]) Q E s:=by
 obtain ⟨t,rfl⟩:=ha
 obtain ⟨t',rfl⟩:=hb
 refine min_two_N hh hR.F hR.N λh' tk F' N'=>k h' tk R _ ⟨F',N',hR.nd,hR.hr⟩ (List.prefix_refl _) ⟨_,rfl⟩
theorem h_all (hh:A.handled=none) (u:V) (H:Hp) (r:V) (H':Hp) (h:allF u H=some (r,H')) (s:Shared) (m:Str→Option Value) (R:List RO) (X:List (Addr × Obj)) (a:Value) (Q:Value→Shared→Prop) (E:Value→Shared→Prop)
  (hR:Rep w.params nm ca h₀ L X m s.heap R H) (ha:VR (ads R) u a)
  (k:∀ h' tk R' y,Rep w.params nm ca h₀ L X m h' R' H'→ads R <+: ads R'→VR (ads R') r y→Q y { s with heap:=h',toks:=tk }):wpAny (model prog w) A (call (.builtin "all") [a]) Q E s:=by
 unfold allF at h
 split at h
 ·split at h
  ·rename_i l hl
   split at h
   ·obtain ⟨bs,hbs,e⟩:=Option.map_eq_some_iff.mp h
    cases e
    obtain ⟨x,vs,n,rfl,e1,hvs,L1⟩:=hR.getList hl ha
    exact all_bools hR.F hR.N hh L1 (bools_are hvs hbs) λh' tk F' N'=>k h' tk R _ ⟨F',N',hR.nd,hR.hr⟩ (List.prefix_refl _) rfl
   ·cases h
  ·cases h
 ·cases h
end
end Mine
end
section
open PySem PySem.W PyProof.Rows PySem.Calls
set_option maxRecDepth 100000
namespace Mine
theorem lookup_bb:typeLookup (.type "bytes") "__bytes__"=pure (some (.builtin "bytes.__bytes__")):=by rw [typeLookup_type,builtinLookup_eq_fast];kernel_rfl
section
variable {prog:Program} {w:World} {A:Around} {E:Value→Shared→Prop} {s:Shared}
theorem bb_new {b:Array UInt8} {t:Tok} {Q:Value→Shared→Prop} (hQ:Q (.bytes b t) s):codeAny (model prog w) A (.call (.builtin "bytes.__new__") ⟨[.type "bytes",.bytes b t],[]⟩) (wants Q E) s:=by
 refine codeAny_of_tree ?_
 show wpAny _ A.in1 (do checkBuiltinCall "bytes.__new__" ⟨[.type "bytes",.bytes b t],[]⟩;again (.builtin "bytes.__new__" ⟨[.type "bytes",.bytes b t],[]⟩)) _ _ s
 refine wpAny_bind (wpAny_of_eq (PySem.F.bm_newCall _) (wpAny_pure ⟨plainId_quiet PySem.F.bm_plain _,codeAny_builtin PySem.F.bm_entry ?_⟩))
 rw [Around.under_plainId PySem.F.bm_plain _]
 have hT:s.TypeIs (.bytes b t) "bytes":=rfl
 unfold Builtin.«bytes.__new__»
 refine wpAny_bind (wpAny_of_eq (a:=true) rfl ?_)
 refine PySem.bm_if_false rfl ?_
 refine wpAny_bind (wpAny_of_eq PySem.F.bm_sub ?_)
 refine PySem.bm_if_false rfl ?_
 refine wpAny_bind (wpAny_of_eq (PySem.F.bm_bind _) ?_)
 refine wpAny_bind (wpAny_of_eq (a:=()) rfl ?_)
 refine wpAny_bind (wpAny_of_eq (a:=()) rfl ?_)
 refine PySem.bm_if_false rfl ?_
 refine wpAny_bind (wpAny_specialOf hT lookup_bb ?_)
 refine wpAny_bind (wpAny_rule ?_)
 refine wpAny_bind (wpAny_of_eq (a:=.type "bytes") rfl ?_)
 exact wpAny_pure hQ
theorem call_bb {b:Array UInt8} {t:Tok} {Q:Value→Shared→Prop} (hQ:Q (.bytes b t) s):wpAny (model prog w) A (call (.type "bytes") [.bytes b t]) Q E s:=by
 refine callType_codes (Q₁:=λobj s₁=>s₁.TypeIs obj "bytes"∧Q obj s₁) PySem.F.bm_called (PySem.F.bm_typeCall _) F.entry_object_init
  (bb_new ⟨rfl,hQ⟩) λobj s₁ h₁=>?_
 exact ⟨h₁.1,F.args_object_init_2 obj _,object_init_meets PySem.F.bm_called.init.lookup PySem.F.bm_called.made (by decide) prog w A.in1 _ s₁ ⟨h₁.1,rfl,h₁.2⟩⟩
end
theorem toBytes_of {ns:List Int} {b:List UInt8} (h:toBytes ns=some b):(∀ n ∈ ns,0 ≤ n∧n < 256)∧b=ns.map λn=>n.toNat.toUInt8:=by
 unfold toBytes at h
 split at h
 ·rename_i q
  cases h
  refine ⟨λn hn=>by simpa using List.all_eq_true.mp q n hn,rfl⟩
 ·cases h
section
variable {prog:Program} {w:World} {K:Frag} {p:Program} {loose:List Str} {mg mb:Str→Option Value} {A A₀:Around} {base h₀:Heap} {outer:List Env} {env:Env} {L:Addr} {d:Nat} {nm:Nat→Str} {ca:CA} {T:Tb}
theorem h_bytesOf (hh:A.handled=none) (u:V) (H:Hp) (r:V) (H':Hp) (h:bytesF u H=some (r,H')) (s:Shared) (m:Str→Option Value) (R:List RO) (X:List (Addr × Obj)) (a:Value) (Q:Value→Shared→Prop) (E:Value→Shared→Prop)
  (hR:Rep w.params nm ca h₀ L X m s.heap R H) (ha:VR (ads R) u a)
  (k:∀ h' tk R' y,Rep w.params nm ca h₀ L X m h' R' H'→ads R <+: ads R'→VR (ads R') r y→Q y { s with heap:=h',toks:=tk }):wpAny (model prog w) A (call (.type "bytes") [a]) Q E s:=by
 unfold bytesF at h
 split at h
 ·cases h
  obtain ⟨t,rfl⟩:=ha
  exact call_bb (k s.heap s.toks R _ hR (List.prefix_refl _) ⟨t,rfl⟩)
 ·split at h
  ·rename_i l hl
   split at h
   ·rename_i hc
    obtain ⟨b,hb,e⟩:=Option.map_eq_some_iff.mp h
    cases e
    obtain ⟨ns,hns,hb⟩:=Option.bind_eq_some_iff.mp hb
    obtain ⟨q1,rfl⟩:=toBytes_of hb
    obtain ⟨x,vs,n,rfl,e1,hvs,L1⟩:=hR.getList hl ha
    exact bytes_K hR.F hR.N L1 (ints_are hvs hns) q1 (by rw [← hvs.length];exact capL_line hc) hh λh' t tk F' N' _=>k h' tk R _ ⟨F',N',hR.nd,hR.hr⟩ (List.prefix_refl _) ⟨t,rfl⟩
   ·cases h
  ·cases h
 ·cases h
theorem rep_newList {P:Params} {h:Heap} {m:Str→Option Value} {R:List RO} {X:List (Addr × Obj)} {H:Hp} (hR:Rep P nm ca h₀ L X m h R H) {h':Heap} {l:Addr} {vs:List V} {us:List Value} {n:Nat}
  (F':Fr h₀ L h' m) (N':News h₀ L h' ((l,listOf us.toArray n) :: (led R ++ X))) (hl:∀ p ∈ led R ++ X,p.1 < l) (hv:VRs (ads R) vs us) :
  ∃ R',And3 (Rep P nm ca h₀ L X m h' R' (H ++ [.list vs])) (ads R <+: ads R') (VR (ads R') (.ref H.length) (.ref l)) :=
 ⟨_,hR.one F' N' hl ⟨_,us,n,rfl,hv.mono (List.prefix_append ..)⟩,by rw [ads_append];exact List.prefix_append ..,l,by
  rw [ads_append,List.getElem?_append_right (by simp [ads,hR.hr.len])];simp [ads,RO.at,hR.hr.len],rfl⟩
theorem s_list {rs:En→Hp→Option (List V × Hp)} {l:List PySem.Expr} {pos:Pos} (hlen:l.length < 100) (hlr:∀ e H vs H',rs e H=some (vs,H')→vs.length < 100)
  (hs:SoundsAt prog w nm ca A h₀ L env T rs (spliced (backTo pos (starEach l env)))) :
  SoundAt prog w nm ca A h₀ L env T (λe H=>match rs e H with
   | some (vs,H)=>some (.ref H.length,H ++ [.list vs])
   | _=>Option.none) (eval (.List l pos) env):=by
 intro e H v H' hv s m R X Q E hR hE k
 dsimp only at hv
 obtain ⟨us,H1,h1,hv⟩:=invVs hv
 cases hv
 refine List_ (hs e H us H1 h1 s m R X _ _ hR hE λh' tk R' vs hR' e1 va=>?_)
 refine newList_K hR'.F hR'.N (λl h2 F' N' hl=>?_) (by rw [← va.length];have:=hlr _ _ _ _ h1;unfold sizeLine;lia)
 obtain ⟨R2,r1,r2,r3⟩:=rep_newList hR' F' N' hl va
 exact k h2 tk R2 _ r1 (e1.trans r2) r3
theorem s_tuple {rs:En→Hp→Option (List V × Hp)} {l:List PySem.Expr} {c:Nat} {pos:Pos} (hlr:∀ e H vs H',rs e H=some (vs,H')→vs.length < 100)
  (hs:SoundsAt prog w nm ca A h₀ L env T rs (spliced (backTo pos (starEach l env)))) :
  SoundAt prog w nm ca A h₀ L env T (λe H=>match rs e H with
   | some (vs,H)=>some (.ref H.length,H ++ [.tuple vs])
   | _=>Option.none) (eval (.Tuple l c pos) env):=by
 intro e H v H' hv s m R X Q E hR hE k
 dsimp only at hv
 obtain ⟨us,H1,h1,hv⟩:=invVs hv
 cases hv
 refine Tuple_ (hs e H us H1 h1 s m R X _ _ hR hE λh' tk R' vs hR' e1 va=>?_)
 refine newTuple_N hR'.F hR'.N (λh2 F' N'=>?_) (by rw [← va.length];have:=hlr _ _ _ _ h1;unfold sizeLine;lia)
 refine k h2 tk _ _ (hR'.one F' N' (λp hp=>Heap.lt_size (hR'.N p hp).1) ⟨_,vs,0,rfl,va.mono (List.prefix_append ..)⟩) (e1.trans (by rw [ads_append];exact List.prefix_append ..)) ⟨_,?_,rfl⟩
 rw [ads_append,List.getElem?_append_right (by simp [ads,hR'.hr.len])];simp [ads,RO.at,hR'.hr.len]
theorem s_key (hn:NmOk nm) {ra:En→Hp→Option (V × Hp)} {x:PySem.Expr} {pos pos':Pos} {n k':Nat} (hN:n < 100) (ha:SoundAt prog w nm ca A h₀ L env T ra (eval x env)) :
  SoundAt prog w nm ca A h₀ L env T (λe H=>match ra e H with
   | some (u,H)=>(keyOf u n H).map λv=>(v,H)
   | _=>Option.none) (eval (.Subscript x (.Constant (.str (nm n)) k' pos') pos) env):=by
 intro e H v H' hv s m R X Q E hR hE k
 dsimp only at hv
 obtain ⟨u,H1,h1,hv⟩:=invV hv
 obtain ⟨b,hb,e'⟩:=Option.map_eq_some_iff.mp hv
 obtain ⟨rfl,rfl⟩:b=v∧H1=H':=Prod.mk.inj e'
 refine Subscript_ (ha e H u H1 h1 s m R X _ _ hR hE λh' tk R' a hR' e1 va=>?_)
 rw [eval_Constant]
 show wpAny _ _ (mkText (nm n)) _ _ _
 refine wpAny_mkText ?_
 unfold keyOf at hb
 split at hb
 ·split at hb
  ·rename_i fs hi
   obtain ⟨r,hr,y,es,ne,rfl,hfr⟩:=hR'.hr.get hi
   obtain ⟨a',ha',rfl⟩:=va
   rw [ads_get hr] at ha'
   cases ha'
   obtain ⟨z,hz,hr'⟩:=getL_of hn hN hfr hb
   have hget:=(hR'.N _ (List.mem_append_left _ (led_one hr))).1
   have keys:∀ {fs:List (Nat × V)} {es:List DictEntry},FR w.params nm (ads R') fs es→∀ e ∈ es,∃ k,(strKind prog w).is k e.key=true∧e.hash=PyData.keyHash w.params k:=by
    intro fs
    induction fs with
    | nil=>intro es h e he;cases es <;> first | exact h.elim | cases he
    | cons f fs ih =>
     intro es h e he
     cases es with
     | nil=>exact h.elim
     | cons e0 es =>
      obtain ⟨_,⟨t,ht⟩,hh,_,hrest⟩:=h
      rcases List.mem_cons.mp he with rfl | he
      ·exact ⟨_,by rw [ht];exact strKind_is _ _ _ _,hh⟩
      ·exact ih hrest e he
   have hm:h'.MapOf (strKind prog w) y (λk=>findBy Value.isStrOf es.toArray k) :=
    ⟨_,es.toArray,ne,hget,⟨rfl,rfl,rfl⟩,rfl,λe he=>by
     obtain ⟨k,a,b⟩:=keys hfr e (by simpa using he)
     exact ⟨k,a,b⟩,λ_=>rfl⟩
   have hf:findBy Value.isStrOf es.toArray (nm n)=some z:=by
    unfold findBy
    rw [List.find?_toArray,show (λd:DictEntry=>Value.isStrOf (nm n) d.key)=λd=>d.key.isStr (nm n) from funext λd=>(isStr_of _ _).symm]
    unfold getL at hz
    split at hz
    ·rename_i e' he';rw [he'];cases hz;rfl
    ·split at hz <;> cases hz
   refine tail_any hm.typeIs slot_dict_getitem.lookup (wpAny_getItem_of (strKind_is prog w (nm n) _) hm hf ?_) rfl
   exact k h' _ R' _ hR' e1 hr'
  ·cases hb
 ·cases hb
end
theorem tail_base {prog:Program} {w:World} {A:Around} {E:Value→Shared→Prop} {s:Shared} {value slice:PySem.Expr} {x:Str} {p:Pos} {o i:Value} {Q:Value→Shared→Prop}
  (h:wpAny (model prog w) A (subscriptTail (.Name x p) slice o i) Q E s):wpAny (model prog w) A (subscriptTail value slice o i) Q E s:=by
 intro Γ q hΓ
 have h1:=h Γ q hΓ
 unfold subscriptTail at h1 ⊢
 rw [Sem.wp_bind'] at h1 ⊢
 refine Sem.wp_mono (model prog w) Γ _ (λb p' s' h2=>?_) (λ_ _ _ z=>z) _ _ h1
 rw [Sem.wp_bind'] at h2 ⊢
 refine Sem.wp_mono (model prog w) Γ _ (λr p'' s'' h3=>?_) (λ_ _ _ z=>z) _ _ h2
 have h4:Q r s'':=h3
 exact (wpAny_bind (m:=letTemporaryGo value o r) (f:=λ_=>pure r) (wpAny_letTemporaryGo (wpAny_pure h4))) Γ p'' hΓ
theorem map_toNat_inj:∀ {a b:List UInt8},a.map (λc=>(c.toNat:Int))=b.map (λc=>(c.toNat:Int))→a=b
 | [],[],_=>rfl
 | [],_ :: _,h=>by cases h
 | _ :: _,[],h=>by cases h
 | x :: a,y :: b,h=>by
  simp only [List.map_cons,List.cons.injEq] at h
  have e1:x=y:=UInt8.toNat_inj.mp (Int.ofNat.inj h.1)
  rw [map_toNat_inj h.2,e1]
section
variable {prog:Program} {w:World} {K:Frag} {p:Program} {loose:List Str} {mg mb:Str→Option Value} {A A₀:Around} {base h₀:Heap} {outer:List Env} {env:Env} {L:Addr} {d:Nat} {nm:Nat→Str} {ca:CA} {T:Tb}
theorem slF_some {u v:V} {H:Hp} {q:V × Hp} (h:slF u v H=some q):∃ k,v = .int k∧0 ≤ k∧((∃ l,u = .bytes l∧l.length < capL∧q=(.bytes (l.take k.toNat),H))∨∃ r l,u = .ref r∧H[r]?=some (.list l)∧l.length < capL∧q=(.ref H.length,H ++ [.list (l.take k.toNat)])):=by
 induction v <;> first | exact nomatch (show Option.none=some q from h) | skip
 obtain ⟨c,h⟩:=iteO h
 refine ⟨_,rfl,c.1,?_⟩
 induction u <;> first | exact nomatch (show Option.none=some q from h) | skip
 ·exact .inl ⟨_,rfl,(ite_some h).1,(ite_some h).2⟩
 ·obtain ⟨l,hl,h⟩:=list_some h
  exact .inr ⟨_,l,rfl,hl,(ite_some h).1,(ite_some h).2⟩
theorem take_eq (l:List UInt8) (n:Nat) (r:List UInt8) (h:r.map (λc=>(c.toNat:Int))=(l.map λc=>(c.toNat:Int)).take (min n l.length)):r=l.take n:=map_toNat_inj (by
 rw [h,← List.map_take]
 exact congrArg (List.map _) (by rw [List.take_eq_take_iff];simp))
theorem s_sliceTo {ra rb:En→Hp→Option (V × Hp)} {x y:PySem.Expr} {pos pos':Pos} (ha:SoundAt prog w nm ca A h₀ L env T ra (eval x env)) (hb:SoundAt prog w nm ca A h₀ L env T rb (eval y env)) :
  SoundAt prog w nm ca A h₀ L env T (λe H=>match ra e H with
   | some (u,H)=>match rb e H with
    | some (v,H)=>slF u v H
    | _=>Option.none
   | _=>Option.none) (eval (.Subscript x (.Slice none (some y) none pos') pos) env):=by
 intro e H v H' hv s m R X Q E hR hE k
 obtain ⟨u,H1,h1,hv⟩:=invV hv
 obtain ⟨n,H2,h2,hv⟩:=invV hv
 obtain ⟨n,rfl,c0,hv⟩:=slF_some hv
 refine Subscript_ (ha e H u H1 h1 s m R X _ _ hR hE λh' tk R' a hR' e1 va=>wpAny_Slice ?_)
 rw [evalPart_none]
 refine wpAny_pure ?_
 rw [evalPart_some]
 refine hb e H1 (.int n) H2 h2 _ m R' X _ _ hR' (hE.mono e1) λh3 tk3 R3 b hR3 e3 vb=>wpAny_pure ?_
 obtain ⟨t,rfl⟩:=vb
 refine tail_base (x := "x") (p:=default) ?_
 rcases hv with ⟨l,rfl,hl,q⟩ | ⟨r,l,rfl,hl,hc2,q⟩
 ·cases q
  obtain ⟨t',rfl⟩:=va
  refine KBc.slice_K (s:={ s with heap:=h3,toks:=tk3 }) hR3.F hR3.N rfl .none (.int n t) (by rw [KBw.ints_length];unfold capL at hl;simp;lia) (λh4 t4 k4 F4 N4 hk=>?_) rfl (λr=>rfl)
  refine k h4 k4 R3 _ ⟨F4,N4,hR3.nd,hR3.hr⟩ (e1.trans e3) ⟨t4,congrArg (λz=>Value.bytes z t4) (Array.toList_inj.mp (take_eq l n.toNat _ (hk.trans ?_)))⟩
  have hclip:clipAt (KBw.bInts l.toArray).length n=min n.toNat (KBw.bInts l.toArray).length:=by
   obtain ⟨j,rfl⟩:=Int.eq_ofNat_of_zero_le c0
   exact clipAt_nat _ _
  simp only [Option.elim,List.drop_zero,Nat.sub_zero]
  rw [hclip,KBw.ints_length]
  rfl
 ·cases q
  obtain ⟨z,vs,nn,rfl,q1,hvs,L1⟩:=hR3.getList hl (va.mono e3)
  refine kms_slice_lit (s:={ s with heap:=h3,toks:=tk3 }) (zs:=vs.take n.toNat) hR3.F hR3.N L1 .none (.int n t) ?_ (λD h4 F4 N4 hD=>?_) rfl (λr=>rfl) (by rw [List.size_toArray,← hvs.length];exact capL_line hc2)
  ·unfold kms_pick kms_lo kms_hi
   dsimp only
   rw [if_neg (Int.not_lt.mpr c0)]
   simp only [List.drop_zero,Nat.sub_zero]
   rw [List.take_eq_take_iff];simp
  ·obtain ⟨R5,r1,r2,r3⟩:=rep_newList hR3 F4 N4 hD (hvs.take n.toNat)
   exact k h4 tk3 R5 _ r1 ((e1.trans e3).trans r2) r3
theorem s_rev {ra:En→Hp→Option (V × Hp)} {x:PySem.Expr} {k₁:Nat} {pos pos' p1 p2:Pos} (ha:SoundAt prog w nm ca A h₀ L env T ra (eval x env)) :
  SoundAt prog w nm ca A h₀ L env T (λe H=>match ra e H with
   | some (u,h)=>revF u h
   | _=>Option.none) (eval (.Subscript x (.Slice none none (some (.UnaryOp .USub (.Constant (.int 1) k₁ p1) p2)) pos') pos) env):=by
 intro e H v H' hv s m R X Q E hR hE k
 obtain ⟨u,H1,h1,hv⟩:=invV hv
 induction u <;> first | exact nomatch (show Option.none=some (v,H') from hv) | skip
 rename_i r
 obtain ⟨l,hl,hv⟩:=list_some hv
 obtain ⟨hc,q⟩:=ite_some hv
 cases q
 refine Subscript_ (ha e H (.ref r) H1 h1 s m R X _ _ hR hE λh' tk R' a hR' e1 va=>wpAny_Slice ?_)
 rw [evalPart_none]
 refine wpAny_pure (wpAny_pure ?_)
 rw [evalPart_some]
 refine s_neg e H1 (.int (-1)) H1 rfl _ m R' X _ _ hR' (hE.mono e1) λh3 tk3 R3 b hR3 e3 vb=>?_
 obtain ⟨t,rfl⟩:=vb
 refine tail_base (x := "x") (p:=default) ?_
 obtain ⟨z,vs,nn,rfl,q1,hvs,L1⟩:=hR3.getList hl (va.mono e3)
 refine krv_lit (s:={ s with heap:=h3,toks:=tk3 }) (zs:=vs.reverse) (ops:=[_,_]) hR3.F hR3.N L1 (.int (-1) t) (by rfl) (λD h4 F4 N4 hD=>?_) rfl (λr=>rfl) (by rw [List.size_toArray,← hvs.length];exact capL_line hc)
 obtain ⟨R5,r1,r2,r3⟩:=rep_newList hR3 F4 N4 hD hvs.reverse
 exact k h4 tk3 R5 _ r1 ((e1.trans e3).trans r2) r3
end
theorem backTo_all {pos:Pos} {env:Env}:∀ {l:List PySem.Expr},(∀ e ∈ l,starLike e=false)→(backTo pos (starEach l env)).all (!·.1)=true
 | [],_=>rfl
 | e :: l,h=>by
  rw [starEach_cons (h e (.head _))]
  show (true && (backTo pos (starEach l env)).all (!·.1))=true
  rw [backTo_all λq hq=>h q (.tail _ hq)];rfl
theorem mcall {M:Model} {A:Around} {E:Value→Shared→Prop} {s:Shared} {env:Env} {o:PySem.Expr} {name:Str} {apos pos:Pos} {args:List PySem.Expr} {Q:Value→Shared→Prop}
  (hs:superLike o=false) (hst:∀ e ∈ args,starLike e=false) (hlen:args.length < 30) (hpos:(apos.endLine == pos.line)=true)
  (h:wpAny M A (eval o env) (λov s₁=>wpAny M A (getMethod ov name (do return (← importBound o env).getD true)) (λfx s₂=>wpAny M A (callWith pos fx.1 fx.2 (backTo pos (starEach args env)) []) Q E s₂) E s₁) E s) :
  wpAny M A (eval (.Call (.Attribute o name apos) args [] pos) env) Q E s:=by
 show wpAny M A (attributeBase o name env (eval o env) >>= λov=>standAt apos.atName >>= λ_=>methodCall o name apos pos env ov (args.length + 0) (backTo pos (starEach args env)) []) Q E s
 have hform:methodCallForm (args.length + 0) (backTo pos (starEach args env)) []=true:=by
  unfold methodCallForm
  rw [backTo_all hst]
  simp;omega
 refine wpAny_bind (attrBase_wp hs (wpAny_mono h (λov s' q=>wpAny_bind (wpAny_standAt ?_)) λ_ _ z=>z))
 unfold methodCall
 rw [hform]
 refine wpAny_bind (wpAny_holding (wpAny_mono (show wpAny M A (calleeOf true o env ov name) _ E s' from q) (λfx s'' q'=>?_) λ_ _ z=>z))
 refine wpAny_bind ?_
 unfold methodCallPos
 rw [hpos,if_pos (by rfl)]
 exact wpAny_pure q'
theorem ads_pre {R:List RO} {i:Nat} {r r':RO} (h:R[i]?=some r) (e:r'.at=r.at):ads R <+: ads (R.set i r'):=by
 rw [ads_set h e];exact List.prefix_refl _
theorem findV_lt {k:Int} {l:List V}:∀ {j:Nat},findV k l=some j→j < l.length:=by
 induction l with
 | nil=>intro j h;exact nomatch (show Option.none=some j from h)
 | cons v l ih =>
  intro j h
  induction v <;> first | exact nomatch (show Option.none=some j from h) | skip
  rename_i i
  replace h:(if i=k then some 0 else (findV k l).map (· + 1))=some j:=h
  by_cases e:i=k
  ·rw [if_pos e] at h
   cases h;exact Nat.succ_pos _
  ·rw [if_neg e] at h
   obtain ⟨q,hq,rfl⟩:=Option.map_eq_some_iff.mp h
   exact Nat.add_lt_add_right (ih hq) _
theorem kf_ints_of {φ:List Addr} {k:Int} {l:List V} {vs:List Value} {ns:List Int} (hv:VRs φ l vs) (h:ints? l=some ns):kf_ints vs=true :=
 VRs.ind (p:=λl vs=>∀ ns,ints? l=some ns→kf_ints vs=true) (λ_ _=>rfl) (λv u l vs hv _ ih ns h=>by
  induction v <;> first | exact nomatch (show Option.none=some ns from h) | skip
  obtain ⟨t,rfl⟩:=hv
  obtain ⟨q,hq,rfl⟩:=Option.map_eq_some_iff.mp h
  exact ih _ hq) l vs hv ns h
theorem delL_of:∀ {l:List Value} {j:Nat},j < l.length→ki_delL l j=some (l.eraseIdx j)
 | x :: l,0,_=>rfl
 | x :: l,j + 1,h=>by
  unfold ki_delL
  rw [delL_of (by exact Nat.lt_of_succ_lt_succ h)];rfl
theorem kl_last_of {l:List Value}:∀ {y:Value},l.getLast?=some y→kl_last l=some (l.dropLast,y):=by
 induction l with
 | nil=>intro y h;cases h
 | cons x l ih =>
  intro y h
  cases l with
  | nil=>cases h;rfl
  | cons z l =>
   unfold kl_last
   rw [ih (y:=y) (by rw [List.getLast?_cons_cons] at h;exact h)];rfl
theorem VRs.dropLast {φ:List Addr} {l:List V} {r:List Value} (h:VRs φ l r):VRs φ l.dropLast r.dropLast:=by
 rw [List.dropLast_eq_take,List.dropLast_eq_take,← h.length];exact h.take _
theorem VRs.getLast {φ:List Addr} {l:List V} {r:List Value} (h:VRs φ l r) {v:V} (e:l.getLast?=some v):∃ u,r.getLast?=some u∧VR φ v u:=by
 rw [List.getLast?_eq_getElem?] at e ⊢;rw [← h.length];exact h.get e
section
variable {prog:Program} {w:World} {K:Frag} {p:Program} {loose:List Str} {mg mb:Str→Option Value} {A A₀:Around} {base h₀:Heap} {outer:List Env} {env:Env} {L:Addr} {d:Nat} {nm:Nat→Str} {ca:CA} {T:Tb}
theorem s_lmeth {name:Str} {id:String} {G:V→V→Hp→Option (V × Hp)} (slot:Slot "list" name id) (hty:typeOf (.builtin id)=pure (.type "method_descriptor"))
  (hG:∀ (u v:V) (H:Hp) (r:V) (H':Hp),G u v H=some (r,H')→∀ (s:Shared) (m:Str→Option Value) (R:List RO) (X:List (Addr × Obj)) (a b:Value) (Q:Value→Shared→Prop) (E:Value→Shared→Prop),
   Rep w.params nm ca h₀ L X m s.heap R H→VR (ads R) u a→VR (ads R) v b →
   (∀ h' tk R' y,Rep w.params nm ca h₀ L X m h' R' H'→ads R <+: ads R'→VR (ads R') r y→Q y { s with heap:=h',toks:=tk })→wpAny (model prog w) A (call (.builtin id) [a,b]) Q E s)
  {ra rb:En→Hp→Option (V × Hp)} {x y:PySem.Expr} {apos pos:Pos} (hs:superLike x=false) (hst:starLike y=false) (hpos:(apos.endLine == pos.line)=true)
  (ha:SoundAt prog w nm ca A h₀ L env T ra (eval x env)) (hb:SoundAt prog w nm ca A h₀ L env T rb (eval y env))
  (hl:∀ e H u H',ra e H=some (u,H')→Ex2 λi l=>u = .ref i∧H'[i]?=some (.list l)) :
  SoundAt prog w nm ca A h₀ L env T (λe H=>match ra e H with
   | some (u,H)=>match rb e H with
    | some (v,H)=>G u v H
    | _=>Option.none
   | _=>Option.none) (eval (.Call (.Attribute x name apos) [y] [] pos) env):=by
 intro e H v H' hv s m R X Q E hR hE k
 dsimp only at hv
 obtain ⟨u,H1,h1,hv⟩:=invV hv
 obtain ⟨u2,H2,h2,hv⟩:=invV hv
 refine mcall hs (λq hq=>by rw [List.mem_singleton.mp hq];exact hst) (by exact Nat.le_add_left _ _) hpos (ha e H u H1 h1 s m R X _ _ hR hE λh' tk R' a hR' e1 va=>?_)
 obtain ⟨i,l,rfl,hl⟩:=hl _ _ _ _ h1
 obtain ⟨z,vs,n,rfl,q1,hvs,L1⟩:=hR'.getList hl va
 refine listMethod_K hR'.N (List.mem_append_left _ (led_one q1)) slot hty ?_
 refine callW (P:=λ_=>True) (λh _=>⟨_,.inr (.inl rfl),looks_machine (λa q=>by cases q)⟩) (λq hq=>by rw [List.mem_singleton.mp hq];exact hst) ?_
 refine spliced_more (hb e H1 u2 H2 h2 _ m R' X _ _ hR' (hE.mono e1) λh3 tk3 R3 b hR3 e3 vb=>spliced_none ⟨trivial,?_⟩) (starEach_cons hst _ _)
 exact hG (.ref i) u2 H2 v H' hv _ m R3 X (.ref z) b _ _ hR3 (va.mono e3) vb λh4 tk4 R4 y hR4 e4 vy=>k h4 tk4 R4 y hR4 ((e1.trans e3).trans e4) vy
theorem listOp_some {v:V} {f:List V→Option (V × List V)} {h:Hp} {r:V} {h':Hp} (e:listOp v f h=some (r,h')):Ex3 λi l l'=>And4 (v = .ref i) (h[i]?=some (.list l)) (f l=some (r,l')) (h'=h.set i (.list l')):=by
 unfold listOp at e
 split at e
 ·split at e
  ·rename_i i _ l hl
   obtain ⟨p,hp,q⟩:=Option.map_eq_some_iff.mp e
   cases q
   exact ⟨i,l,p.2,rfl,hl,hp,rfl⟩
  ·cases e
 ·cases e
theorem h_append (u v:V) (H:Hp) (r:V) (H':Hp) (h:listOp u (appendF v) H=some (r,H')) (s:Shared) (m:Str→Option Value) (R:List RO) (X:List (Addr × Obj)) (a b:Value) (Q:Value→Shared→Prop) (E:Value→Shared→Prop)
  (hR:Rep w.params nm ca h₀ L X m s.heap R H) (ha:VR (ads R) u a) (hb:VR (ads R) v b)
  (k:∀ h' tk R' y,Rep w.params nm ca h₀ L X m h' R' H'→ads R <+: ads R'→VR (ads R') r y→Q y { s with heap:=h',toks:=tk }):wpAny (model prog w) A (call (.builtin "list.append") [a,b]) Q E s:=by
 obtain ⟨i,l,l',rfl,hl,hf,rfl⟩:=listOp_some h
 unfold appendF at hf
 split at hf
 ·rename_i hc
  cases hf
  obtain ⟨z,vs,n,rfl,q1,hvs,L1⟩:=hR.getList hl ha
  have U:=upd_one (o':=listOf (vs.toArray.push b) (n + 1)) q1 hR.nd
  refine append_K hR.F hR.N U.1 (λh' F' N'=>?_) (by rw [List.size_toArray,← hvs.length];exact capL_line hc)
  refine k h' s.toks _ _ (hR.set1 q1 F' N' ⟨z,vs ++ [b],n + 1,by simp,hvs.append ⟨hb,trivial⟩⟩ (by rw [hl];exact λq=>nomatch q)) (ads_pre q1 rfl) rfl
 ·cases hf
theorem h_remove (u v:V) (H:Hp) (r:V) (H':Hp) (h:(match v with | .int k=>listOp u (removeF k) H | _=>Option.none)=some (r,H')) (s:Shared) (m:Str→Option Value) (R:List RO) (X:List (Addr × Obj)) (a b:Value) (Q:Value→Shared→Prop) (E:Value→Shared→Prop)
  (hR:Rep w.params nm ca h₀ L X m s.heap R H) (ha:VR (ads R) u a) (hb:VR (ads R) v b)
  (k:∀ h' tk R' y,Rep w.params nm ca h₀ L X m h' R' H'→ads R <+: ads R'→VR (ads R') r y→Q y { s with heap:=h',toks:=tk }):wpAny (model prog w) A (call (.builtin "list.remove") [a,b]) Q E s:=by
 induction v <;> first | (cases h;done) | skip
 rename_i kk
 dsimp only at h
 obtain ⟨i,l,l',rfl,hl,hf,rfl⟩:=listOp_some h
 unfold removeF at hf
 split at hf
 ·rename_i hc
  obtain ⟨j,hj,e⟩:=Option.map_eq_some_iff.mp hf
  cases e
  obtain ⟨ns,hns,hj⟩:∃ ns,ints? l=some ns∧findV kk l=some j:=by
   split at hj
   ·rename_i q;obtain ⟨ns,q⟩:=Option.isSome_iff_exists.mp q;exact ⟨ns,q,hj⟩
   ·cases hj
  obtain ⟨t,rfl⟩:=hb
  obtain ⟨z,vs,n,rfl,q1,hvs,L1⟩:=hR.getList hl ha
  have U:=upd_one (o':=listOf (vs.eraseIdx j).toArray (n + 1)) q1 hR.nd
  have hlt:=findV_lt hj
  refine kf_remove hR.F hR.N (kf_ints_of (k:=kk) hvs hns) (findV_at hvs hj) (delL_of (by rw [← hvs.length];exact hlt)) U.1 (by show vs.length ≤ _;rw [← hvs.length];exact capL_line hc) λh' F' N'=>?_
  refine k h' s.toks _ _ (hR.set1 q1 F' N' ⟨z,_,n + 1,rfl,hvs.eraseIdx j⟩ (by rw [hl];exact λq=>nomatch q)) (ads_pre q1 rfl) rfl
 ·cases hf
theorem h_index (u v:V) (H:Hp) (r:V) (H':Hp) (h:(match v with | .int k=>listOp u (indexF k) H | _=>Option.none)=some (r,H')) (s:Shared) (m:Str→Option Value) (R:List RO) (X:List (Addr × Obj)) (a b:Value) (Q:Value→Shared→Prop) (E:Value→Shared→Prop)
  (hR:Rep w.params nm ca h₀ L X m s.heap R H) (ha:VR (ads R) u a) (hb:VR (ads R) v b)
  (k:∀ h' tk R' y,Rep w.params nm ca h₀ L X m h' R' H'→ads R <+: ads R'→VR (ads R') r y→Q y { s with heap:=h',toks:=tk }):wpAny (model prog w) A (call (.builtin "list.index") [a,b]) Q E s:=by
 induction v <;> first | (cases h;done) | skip
 rename_i kk
 dsimp only at h
 obtain ⟨i,l,l',rfl,hl,hf,rfl⟩:=listOp_some h
 unfold indexF at hf
 split at hf
 ·rename_i hc
  obtain ⟨j,hj,e⟩:=Option.map_eq_some_iff.mp hf
  cases e
  obtain ⟨ns,hns,hj⟩:∃ ns,ints? l=some ns∧findV kk l=some j:=by
   split at hj
   ·rename_i q;obtain ⟨ns,q⟩:=Option.isSome_iff_exists.mp q;exact ⟨ns,q,hj⟩
   ·cases hj
  obtain ⟨t,rfl⟩:=hb
  obtain ⟨z,vs,n,rfl,q1,hvs,L1⟩:=hR.getList hl ha
  have hset:H.set i (.list l)=H:=by
   refine List.ext_getElem? λq=>?_
   rw [List.getElem?_set]
   split
   ·rename_i hq;subst hq
    split
    ·exact hl.symm
    ·rename_i hlt;rw [List.getElem?_eq_none (by exact Nat.not_lt.mp ‹_›)]
   ·rfl
  refine kf_index (j:=j) (i:=(j:Int)) hR.N (List.mem_append_left _ (led_one q1)) (kf_ints_of (k:=kk) hvs hns) (findV_at hvs hj) rfl (by show vs.length ≤ _;rw [← hvs.length];exact capL_line hc) ?_
  exact k s.heap _ R _ (by rw [hset];exact hR) (List.prefix_refl _) ⟨_,rfl⟩
 ·cases hf
theorem h_pop (u:V) (H:Hp) (r:V) (H':Hp) (h:listOp u popF H=some (r,H')) (s:Shared) (m:Str→Option Value) (R:List RO) (X:List (Addr × Obj)) (a:Value) (Q:Value→Shared→Prop) (E:Value→Shared→Prop)
  (hR:Rep w.params nm ca h₀ L X m s.heap R H) (ha:VR (ads R) u a)
  (k:∀ h' tk R' y,Rep w.params nm ca h₀ L X m h' R' H'→ads R <+: ads R'→VR (ads R') r y→Q y { s with heap:=h',toks:=tk }):wpAny (model prog w) A (call (.builtin "list.pop") [a]) Q E s:=by
 obtain ⟨i,l,l',rfl,hl,hf,rfl⟩:=listOp_some h
 unfold popF at hf
 split at hf
 ·rename_i hc
  obtain ⟨y,hy,e⟩:=Option.map_eq_some_iff.mp hf
  cases e
  obtain ⟨z,vs,n,rfl,q1,hvs,L1⟩:=hR.getList hl ha
  obtain ⟨u,hu,hr⟩:=hvs.getLast hy
  have U:=upd_one (o':=listOf vs.dropLast.toArray (n + 1)) q1 hR.nd
  refine kl_pop hR.F hR.N (kl_last_of hu) U.1 (by show vs.length ≤ _;rw [← hvs.length];exact capL_line hc) λh' F' N'=>?_
  have ea:=ads_set (R:=R) (r':=.one z (listOf vs.dropLast.toArray (n + 1))) q1 rfl
  exact k h' s.toks _ _ (hR.set1 q1 F' N' ⟨z,_,n + 1,rfl,hvs.dropLast⟩ (by rw [hl];exact λq=>nomatch q)) (by rw [ea];exact List.prefix_refl _) (by rw [ea];exact hr)
 ·cases hf
theorem s_pop {ra:En→Hp→Option (V × Hp)} {x:PySem.Expr} {apos pos:Pos} (hs:superLike x=false) (hpos:(apos.endLine == pos.line)=true) (ha:SoundAt prog w nm ca A h₀ L env T ra (eval x env)) :
  SoundAt prog w nm ca A h₀ L env T (λe H=>match ra e H with
   | some (u,H)=>listOp u popF H
   | _=>Option.none) (eval (.Call (.Attribute x "pop" apos) [] [] pos) env):=by
 intro e H v H' hv s m R X Q E hR hE k
 dsimp only at hv
 obtain ⟨u,H1,h1,hv⟩:=invV hv
 refine mcall hs (λq hq=>nomatch hq) (by decide) hpos (ha e H u H1 h1 s m R X _ _ hR hE λh' tk R' a hR' e1 va=>?_)
 obtain ⟨i,l,l',rfl,hl,_⟩:=listOp_some hv
 obtain ⟨z,vs,n,rfl,q1,hvs,L1⟩:=hR'.getList hl va
 refine listMethod_K hR'.N (List.mem_append_left _ (led_one q1)) PySem.F.slot_list_pop PySem.F.type_list_pop ?_
 refine callW (P:=λ_=>True) (λh _=>⟨_,.inr (.inl rfl),looks_machine (λa q=>by cases q)⟩) (λq hq=>nomatch hq) (spliced_none ⟨trivial,?_⟩)
 exact h_pop (.ref i) H1 v H' hv _ m R' X (.ref z) _ _ hR' va λh4 tk4 R4 y hR4 e4 vy=>k h4 tk4 R4 y hR4 (e1.trans e4) vy
end
theorem under_new {A:Around} {C:Addr} {rest:List Value} {kw:List (Str × Value)}:(A.under (.builtin "type.__call__" ⟨.ref C :: rest,kw⟩)) = { A with depth:=A.depth + 1,units:=A.units + 1 }:=by
 obtain ⟨h,d,fr,g,u⟩:=A
 have e1:(Code.builtin "type.__call__" ⟨.ref C :: rest,kw⟩).frames=0:=rfl
 have e2:(Code.builtin "type.__call__" ⟨.ref C :: rest,kw⟩).isGuard=false:=by show guardIds.contains "type.__call__"=false;decide +kernel
 have e3:(Code.builtin "type.__call__" ⟨.ref C :: rest,kw⟩).isFrame=false:=rfl
 have hw:(Code.builtin "type.__call__" ⟨.ref C :: rest,kw⟩).weight=1:=by
  unfold Code.weight;rw [e1,e2];rfl
 unfold Around.under
 rw [hw]
 have e4:(Code.builtin "type.__call__" ⟨.ref C :: rest,kw⟩).envs = []:=by unfold Code.envs;rw [e3];rfl
 have e5:(Code.builtin "type.__call__" ⟨.ref C :: rest,kw⟩).guards = []:=by unfold Code.guards;rw [e2];rfl
 rw [e4,e5]
 rfl
section
variable {prog:Program} {w:World} {K:Frag} {p:Program} {loose:List Str} {mg mb:Str→Option Value} {A A₀:Around} {base h₀:Heap} {outer:List Env} {env:Env} {L:Addr} {d:Nat} {nm:Nat→Str} {ca:CA} {T:Tb}
theorem Cx.under (C:Cx prog w K p loose mg mb ca A h₀ outer env L (d + 1)) {c:Addr} {rest:List Value} {kw:List (Str × Value)} :
  Cx prog w K p loose mg mb ca (A.under (.builtin "type.__call__" ⟨.ref c :: rest,kw⟩)) h₀ outer env L d:=by
 rw [under_new]
 exact ⟨⟨C.hk,C.hg,C.hb,C.X,C.T,C.hh,by show A.units + 1 < cLine;have:=C.units;unfold cLine;lia⟩,C.fr,C.new,C.hA,C.hf,by show A.depth + 1 + d ≤ _;have:=C.room;lia,by show A.units + 1 + 20 * d ≤ _;have:=C.units;lia⟩
theorem Cx.less (C:Cx prog w K p loose mg mb ca A h₀ outer env L d) {d':Nat} (h:d' ≤ d):Cx prog w K p loose mg mb ca A h₀ outer env L d' :=
 ⟨C.toCx0,C.fr,C.new,C.hA,C.hf,by have:=C.room;lia,by have:=C.units;lia⟩
end
noncomputable def RaisedM (h₂:Heap) (l:List Env) (e:Addr) (cls:Value) (h':Heap):Prop :=
 (∃ t:Addr,Heap.FlyingW (hideAll h₂ (l.filterMap (·.frame))) l e cls (.ref t) h')∧h₂.UpToSlots h'
noncomputable def CallAt (prog:Program) (w:World) (nm:Nat→Str) (ca:CA) (A:Around) (h₀:Heap) (outer:List Env) (env:Env) (L:Addr) (r:CRes) (f:Addr) (us:List Value) (s:Shared) (m:Str→Option Value) (R:List RO) (X:List (Addr × Obj)):Prop :=
 match r with
 | .val v H'=>∀ Rr:Result→Shared→Prop,(∀ h' tk R' u,Rep w.params nm ca h₀ L X m h' R' H'→ads R <+: ads R'→VR (ads R') v u→Rr (.ok (.ret u)) { s with heap:=h',toks:=tk }) →
   codeAny (model prog w) A (.call (.ref f) ⟨us,[]⟩) Rr s
 | .exc c H'=>∀ Rr:Result→Shared→Prop,(∀ h' tk e R' h₂,Rep w.params nm ca h₀ L X m h₂ R' H'→ads R <+: ads R'→RaisedM h₂ (env :: outer) e (.ref (ca c)) h' →
   Rr (.error (.ref e)) { s with heap:=h',toks:=tk })→codeAny (model prog w) A (.call (.ref f) ⟨us,[]⟩) Rr s
 | .bad=>True
noncomputable def CallOk (prog:Program) (w:World) (K:Frag) (p:Program) (loose:List Str) (mg mb:Str→Option Value) (nm:Nat→Str) (ca:CA) (fa:Nat→Addr) (call:CallF) (n:Nat):Prop :=
 ∀ (A:Around) (h₀:Heap) (outer:List Env) (env:Env) (L:Addr),Cx prog w K p loose mg mb ca A h₀ outer env L n→∀ (f:Nat) (vs:List V) (H:Hp) (s:Shared) (m:Str→Option Value) (R:List RO) (X:List (Addr × Obj)) (us:List Value),
  Rep w.params nm ca h₀ L X m s.heap R H→VRs (ads R) vs us→CallAt prog w nm ca A h₀ outer env L (call f vs H) (fa f) us s m R X
section
variable {prog:Program} {w:World} {K:Frag} {p:Program} {loose:List Str} {mg mb:Str→Option Value} {A A₀:Around} {base h₀:Heap} {outer:List Env} {env:Env} {L:Addr} {d n:Nat} {nm:Nat→Str} {ca:CA} {fa:Nat→Addr} {T:Tb} {call:CallF}
theorem gname (C:Cx0 K p loose mg mb A h₀ env L) {x:Str} {v:Value} {pos:Pos} (hk:T.names=env.scope.names) (h:T.glb x=true) (hx:nsIn K mainGlobals x=some (some v))
  {s:Shared} {m:Str→Option Value} {Q:Value→Shared→Prop} {E:Value→Shared→Prop} (F:Fr h₀ L s.heap m) (q:Q v s):wpAny (model prog w) A (eval (.Name x pos) env) Q E s:=by
 obtain ⟨h2,h3⟩:=glb_of h
 exact Name_function_global C.hk (by unfold Env.kindOf;rw [← hk];exact h2) (loadGlobal_global (by rw [C.hg];exact C.T.g.keeps F.keep) (mg_of C.X C.T.g hx) q) h3
theorem s_call {fenv:Env} (C0:Cx0 K p loose mg mb A h₀ env L) (C:Cx prog w K p loose mg mb ca A h₀ outer fenv L d) (hc:CallOk prog w K p loose mg mb nm ca fa call n) (hd:n ≤ d) {f:Nat} {x:Str} {rs:En→Hp→Option (List V × Hp)} {l:List PySem.Expr} {pos pos':Pos}
  (hk:T.names=env.scope.names) (h:T.glb x=true) (hx:nsIn K mainGlobals x=some (some (.ref (fa f)))) (hkeep:keepIn K (.ref (fa f))=true) (hst:∀ e ∈ l,starLike e=false)
  (hs:SoundsAt prog w nm ca A h₀ L env T rs (spliced (backTo pos (starEach l env)))) :
  SoundAt prog w nm ca A h₀ L env T (λe H=>match rs e H with
   | some (vs,h)=>match call f vs h with
    | .val v h=>some (v,h)
    | _=>Option.none
   | _=>Option.none) (eval (.Call (.Name x pos') l [] pos) env):=by
 intro e H v H' hv s m R X Q E hR hE k
 dsimp only at hv
 obtain ⟨us,H1,h1,hv⟩:=invVs hv
 refine Call_ (gname C0 hk h hx hR.F (callW (P:=λh=>K.In h) (keeps_K hkeep) hst ?_))
 refine hs e H us H1 h1 s m R X _ _ hR hE λh' tk R' vs hR' e1 va=>⟨C.X.keeps hR'.F.keep,?_⟩
 have hcall:=hc A h₀ outer fenv L (C.less hd) f us H1 { s with heap:=h',toks:=tk } m R' X vs hR' va
 cases hr:call f us H1 with
 | val v2 H2 =>
  rw [hr] at hv hcall
  cases hv
  exact wpAny_call (hcall _ λh2 tk2 R2 u hR2 e2 vu=>k h2 tk2 R2 u hR2 (e1.trans e2) vu)
 | exc c H2=>rw [hr] at hv;cases hv
 | bad=>rw [hr] at hv;cases hv
theorem s_new (C:Cx prog w K p loose mg mb ca A h₀ outer env L d) (hc:CallOk prog w K p loose mg mb nm ca fa call n) (hd:n + 1 ≤ d) {f c:Nat} {x:Str} {rs:En→Hp→Option (List V × Hp)} {l:List PySem.Expr} {pos pos':Pos}
  (hk:T.names=env.scope.names) (h:T.glb x=true) (hx:nsIn K mainGlobals x=some (some (.ref (ca c)))) (hkeep:keepIn K (.ref (ca c))=true) (hm:makesIn K (ca c)=true)
  (hi:findIn K (.ref (ca c)) "__init__"=some (some (.ref (fa f)))) (hfn:isFn K (.ref (fa f))=true) (hst:∀ e ∈ l,starLike e=false)
  (hs:SoundsAt prog w nm ca A h₀ L env T rs (spliced (backTo pos (starEach l env)))) :
  SoundAt prog w nm ca A h₀ L env T (λe H=>match rs e H with
   | some (vs,h)=>match call f (.ref h.length :: vs) (h ++ [.inst c []]) with
    | .val .none h'=>some (.ref h.length,h')
    | _=>Option.none
   | _=>Option.none) (eval (.Call (.Name x pos') l [] pos) env):=by
 intro e H v H' hv s m R X Q E hR hE k
 dsimp only at hv
 obtain ⟨us,H1,h1,hv⟩:=invVs hv
 refine Call_ (gname C.toCx0 hk h hx hR.F (callW (P:=λh=>K.In h) (keeps_K hkeep) hst ?_))
 refine hs e H us H1 h1 s m R X _ _ hR hE λh' tk R' vs hR' e1 va=>⟨C.X.keeps hR'.F.keep,?_⟩
 refine call_cls hR'.F C.X hR'.N hm hi hfn λy dy h2 F2 N2 hy1 hy2=>?_
 have hR2:Rep w.params nm ca h₀ L X m h2 (R' ++ [.two y dy (instObj (ca c) dy) (dictOf [] 0)]) (H1 ++ [.inst c []]):=hR'.two F2 N2 hy1 hy2 ⟨y,dy,[],0,rfl,trivial⟩
 have ea:ads R' <+: ads (R' ++ [.two y dy (instObj (ca c) dy) (dictOf [] 0)]):=by rw [ads_append];exact List.prefix_append ..
 have hy:VR (ads (R' ++ [.two y dy (instObj (ca c) dy) (dictOf [] 0)])) (.ref H1.length) (.ref y):=⟨y,by
  rw [ads_append,List.getElem?_append_right (by simp [ads,hR'.hr.len])];simp [ads,RO.at,hR'.hr.len],rfl⟩
 have hcall:=hc _ h₀ outer env L ((C.less hd).under (c:=ca c) (rest:=[] ++ vs) (kw:=[])) f (.ref H1.length :: us) (H1 ++ [.inst c []]) { s with heap:=h2,toks:=tk } m _ X (.ref y :: vs) hR2 ⟨hy,va.mono ea⟩
 cases hr:call f (.ref H1.length :: us) (H1 ++ [.inst c []]) with
 | val v2 H2 =>
  rw [hr] at hv hcall
  induction v2 <;> first | (cases hv;done) | skip
  obtain ⟨rfl,rfl⟩:V.ref H1.length=v∧H2=H':=some2 hv
  refine hcall _ λh3 tk3 R3 u hR3 e3 vu=>⟨vu,?_⟩
  exact k h3 tk3 R3 (.ref y) hR3 ((e1.trans ea).trans e3) (hy.mono e3)
 | exc c H2=>rw [hr] at hv;cases hv
 | bad=>rw [hr] at hv;cases hv
theorem s_new0 (C:Cx prog w K p loose mg mb ca A h₀ outer env L d) {c:Nat} {x:Str} {pos pos':Pos}
  (hk:T.names=env.scope.names) (h:T.glb x=true) (hx:nsIn K mainGlobals x=some (some (.ref (ca c)))) (hkeep:keepIn K (.ref (ca c))=true) (hm:makesIn K (ca c)=true)
  (hi:findIn K (.ref (ca c)) "__init__"=some (some (.builtin "object.__init__"))) :
  SoundAt prog w nm ca A h₀ L env T (λ_ h=>some (.ref h.length,h ++ [.inst c []])) (eval (.Call (.Name x pos') [] [] pos) env):=by
 intro e H v H' hv s m R X Q E hR hE k
 obtain ⟨rfl,rfl⟩:V.ref H.length=v∧H ++ [.inst c []]=H':=some2 hv
 refine Call_ (gname C.toCx0 hk h hx hR.F (callW (P:=λh=>K.In h) (keeps_K hkeep) (λ_ q=>nomatch q) (spliced_none ⟨C.X.keeps hR.F.keep,?_⟩)))
 refine call_cls0 hR.F C.X hR.N hm hi λy dy h2 F2 N2 hy1 hy2=>?_
 have hR2:Rep w.params nm ca h₀ L X m h2 (R ++ [.two y dy (instObj (ca c) dy) (dictOf [] 0)]) (H ++ [.inst c []]):=hR.two F2 N2 hy1 hy2 ⟨y,dy,[],0,rfl,trivial⟩
 refine k h2 s.toks _ (.ref y) hR2 (by rw [ads_append];exact List.prefix_append ..) ⟨y,?_,rfl⟩
 rw [ads_append,List.getElem?_append_right (by simp [ads,hR.hr.len])];simp [ads,RO.at,hR.hr.len]
theorem meth_core (C:Cx prog w K p loose mg mb ca A h₀ outer env L d) (hn:NmOk nm) {P:Prg} (hM:∀ c m f,P.meth c m=some f→MethOk K (ca c) (nm m) (fa f)) {M:Nat} (hN:M < 100) {ra:En→Hp→Option (V × Hp)} {rs:En→Hp→Option (List V × Hp)} {o:PySem.Expr}
  {l:List PySem.Expr} {apos pos:Pos} (hso:superLike o=false) (hst:∀ e ∈ l,starLike e=false) (hlen:l.length < 30) (hpos:(apos.endLine == pos.line)=true)
  (ha:SoundAt prog w nm ca A h₀ L env T ra (eval o env)) (hs:SoundsAt prog w nm ca A h₀ L env T rs (spliced (backTo pos (starEach l env))))
  {e:En} {H:Hp} {u:V} {H1:Hp} (h1:ra e H=some (u,H1)) {f:Nat} (hf:methOf P u M H1=some f) {us:List V} {H2:Hp} (h2:rs e H1=some (us,H2))
  {s:Shared} {m:Str→Option Value} {R:List RO} {X:List (Addr × Obj)} {Q:Value→Shared→Prop} {E:Value→Shared→Prop} (hR:Rep w.params nm ca h₀ L X m s.heap R H) (hE:EnvN T env L X m (ads R) e)
  (k:∀ h' tk R' a vs,Rep w.params nm ca h₀ L X m h' R' H2→ads R <+: ads R'→VR (ads R') u a→VRs (ads R') us vs→wpAny (model prog w) A (PySem.call (.ref (fa f)) (a :: vs)) Q E { s with heap:=h',toks:=tk }) :
  wpAny (model prog w) A (eval (.Call (.Attribute o (nm M) apos) l [] pos) env) Q E s:=by
 refine mcall hso hst hlen hpos (ha e H u H1 h1 s m R X _ _ hR hE λh' tk R' a hR' e1 va=>?_)
 unfold methOf at hf
 split at hf
 ·split at hf
  ·rename_i c fs hi
   split at hf
   ·rename_i hg
    have hm:=hM _ _ _ hf
    obtain ⟨x,dx,es,ne,rfl,q1,hfr,I⟩:=hR'.getInst hi va
    have hg0:getF M fs=none:=by simpa using hg
    refine method_inst hR'.F C.X I hm.hg hm.hf hm.ht (getL_none hn hN hfr hg0).1 ?_
    refine callW (P:=λh=>K.In h) (keeps_K hm.hk) hst ?_
    refine hs e H1 us H2 h2 _ m R' X _ _ hR' (hE.mono e1) λh3 tk3 R3 vs hR3 e3 vb=>⟨C.X.keeps hR3.F.keep,?_⟩
    exact k h3 tk3 R3 (.ref x) vs hR3 (e1.trans e3) (va.mono e3) vb
   ·cases hf
  ·cases hf
 ·cases hf
theorem s_meth (C:Cx prog w K p loose mg mb ca A h₀ outer env L d) (hc:CallOk prog w K p loose mg mb nm ca fa call n) (hd:n ≤ d) (hn:NmOk nm) {P:Prg} (hM:∀ c m f,P.meth c m=some f→MethOk K (ca c) (nm m) (fa f)) {M:Nat} (hN:M < 100) {ra:En→Hp→Option (V × Hp)} {rs:En→Hp→Option (List V × Hp)} {o:PySem.Expr}
  {l:List PySem.Expr} {apos pos:Pos} (hso:superLike o=false) (hst:∀ e ∈ l,starLike e=false) (hlen:l.length < 30) (hpos:(apos.endLine == pos.line)=true)
  (ha:SoundAt prog w nm ca A h₀ L env T ra (eval o env)) (hs:SoundsAt prog w nm ca A h₀ L env T rs (spliced (backTo pos (starEach l env)))) :
  SoundAt prog w nm ca A h₀ L env T (λe H=>match ra e H with
   | some (u,h)=>match methOf P u M h with
    | some f=>match rs e h with
     | some (vs,h)=>match call f (u :: vs) h with
      | .val v h=>some (v,h)
      | _=>Option.none
     | _=>Option.none
    | _=>Option.none
   | _=>Option.none) (eval (.Call (.Attribute o (nm M) apos) l [] pos) env):=by
 intro e H v H' hv s m R X Q E hR hE k
 dsimp only at hv
 obtain ⟨u,H1,h1,hv⟩:=invV hv
 obtain ⟨f,hf,hv⟩:=invN hv
 obtain ⟨us,H2,h2,hv⟩:=invVs hv
 refine meth_core C hn hM hN hso hst hlen hpos ha hs h1 hf h2 hR hE λh' tk R' a vs hR' e1 va vs'=>?_
 have hcall:=hc A h₀ outer env L (C.less hd) f (u :: us) H2 { s with heap:=h',toks:=tk } m R' X (a :: vs) hR' ⟨va,vs'⟩
 cases hr:call f (u :: us) H2 with
 | val v2 H3 =>
  rw [hr] at hv hcall
  obtain ⟨rfl,rfl⟩:v2=v∧H3=H':=some2 hv
  exact wpAny_call (hcall _ λh2 tk2 R2 u hR2 e2 vu=>k h2 tk2 R2 u hR2 (e1.trans e2) vu)
 | exc c H3=>rw [hr] at hv;cases hv
 | bad=>rw [hr] at hv;cases hv
end
end Mine
end
section
open PySem PySem.W PyProof.Rows PySem.Calls PyProof.Rows.LCg
set_option maxRecDepth 100000
namespace Mine
theorem VR.back {φ ψ:List Addr} {v:V} {u u':Value} (h:VR φ v u) (e:φ <+: ψ) (h':VR ψ v u'):VR φ v u':=by
 induction v <;> try exact h'
 obtain ⟨a,h1,h2⟩:=h
 obtain ⟨b,h3,h4⟩:=h'
 obtain ⟨S,rfl⟩:=e
 rw [List.getElem?_append_left (List.getElem?_eq_some_iff.mp h1).1] at h3
 exact ⟨b,h3,h4⟩
theorem VRs.back {φ ψ:List Addr} (e:φ <+: ψ) {l:List V} {r r':List Value} (h:VRs φ l r) (h':VRs ψ l r'):VRs φ l r' :=
 VRs.ind (p:=λl _=>∀ r',VRs ψ l r'→VRs φ l r') (λr' h'=>by cases r' with | nil=>trivial | cons=>exact h'.elim) (λv u l r a _ ih r' h'=>by cases r' with | nil=>exact h'.elim | cons=>exact ⟨a.back e h'.1,ih _ h'.2⟩) l r h r' h'
theorem walk_vals {prog:Program} {w:World} {A:Around} (hh:A.handled=none) (I ax:Addr) (hne:ax ≠ I) (φ:List Addr) (l:List V) :
  Walks prog w A I [I,ax] [I] l.length (λi v=>∃ u,l[i]?=some u∧VR φ u v) (λi h=>h.IsListIter I ax i∧∃ vs:List Value,h.IsList ax vs.toArray∧VRs φ l vs) where
 sub:=λb hb=>by simp at hb;simp [hb]
 frame:=λ_ _ _ st hk=>⟨st.1.at λo e=>hk I (by exact .head _) o e,let ⟨vs,a,b⟩:=st.2;⟨vs,a.at λo e=>hk ax (by exact .tail _ (.head _)) o e,b⟩⟩
 item:=λi s Q E hi st hQ=>by
  obtain ⟨s1,vs,s2,hv⟩:=st
  obtain ⟨u,hu,hr⟩:=hv.get (i:=i) (v:=l[i]) (by simp [hi])
  refine wpAny_pyNext_list_item s1 s2 (x:=u) (by simpa using hu) λh' hit' hs'=>?_
  exact hQ _ h' s.toks ⟨l[i],by simp [hi],hr⟩ ⟨hit',vs,s2.extBut hs'.extBut hne,hv⟩ λb o hb e=>hs'.extBut b o (λh=>hb (by simp [h])) e
 done:=λs Q E st hQ=>by
  obtain ⟨s1,vs,s2,hv⟩:=st
  exact wpAny_pyNext_list_end hh s1 s2 (by simp [hv.length]) λh' he'=>hQ h' s.toks λb o hb e=>he' b o (λh=>hb (by simp [h])) e
 self:=λ_ _ _ _ st hQ=>wpAny_pyIter_listiter st.1 hQ
noncomputable def SrcIn (ax:Addr) (φ:List Addr) (l:List V) (news:List (Addr × Obj)):Prop:=Ex2 fun (vs:List Value) (n:Nat)=>(ax,listOf vs.toArray n) ∈ news∧VRs φ l vs
theorem nsOb_of {o:Obj} {m:Str→Option Value} (h:NsObj o m):NsOb o m:=λ_ _ e=>h.ns e
section
variable {prog:Program} {w:World} {K:Frag} {p:Program} {loose:List Str} {mg mb:Str→Option Value} {A A₀:Around} {base h₀:Heap} {outer:List Env} {env:Env} {L:Addr} {d n:Nat} {nm:Nat→Str} {ca:CA} {fa:Nat→Addr} {T:Tb} {call:CallF}
noncomputable def EltOk (prog:Program) (w:World) (nm:Nat→Str) (ca:CA) (A:Around) (h₀:Heap) (L:Addr) (env:Env) (T:Tb) (f:V→Hp→Option (V × Hp)) (e:En) (elt:PySem.Expr) (x:Str) (scope:Scope) (cl:List (Str × Addr)):Prop :=
 ∀ (v:V) (H:Hp) (r:V) (H':Hp),f v H=some (r,H')→∀ (C:Addr) (oC:Obj) (m₂:Str→Option Value) (u:Value) (s:Shared) (m:Str→Option Value) (R:List RO) (X:List (Addr × Obj)) (Q:Value→Shared→Prop) (E:Value→Shared→Prop),
  Rep w.params nm ca h₀ L X m s.heap R H→(C,oC) ∈ X→NsOb oC m₂→m₂ x=some u→VR (ads R) v u→EnvN T env L X m (ads R) e →
  (∀ h' tk R' y,Rep w.params nm ca h₀ L X m h' R' H'→ads R <+: ads R'→VR (ads R') r y→Q y { s with heap:=h',toks:=tk })→wpAny (model prog w) A (eval elt (compEnvC scope cl C env)) Q E s
theorem nodup_three {I C D:Addr} {oI oC oD:Obj} {l X:List (Addr × Obj)} (nd:((l ++ X).map Prod.fst).Nodup) (off:Off3 I C D (l ++ X)) (h:(@Ne Nat I C)∧(@Ne Nat I D)∧(@Ne Nat C D)) :
  ((l ++ (I,oI) :: (C,oC) :: (D,oD) :: X).map Prod.fst).Nodup:=by
 have o:=off.mem
 have hn:∀ a,a ∈ (l ++ X).map Prod.fst→a ≠ I∧a ≠ C∧a ≠ D:=λa ha=>by
  obtain ⟨q,hq,rfl⟩:=List.mem_map.mp ha
  exact o q hq
 rw [List.map_append] at nd hn ⊢
 simp only [List.map_cons]
 have e:(l.map Prod.fst ++ I :: C :: D :: X.map Prod.fst).Perm (I :: C :: D :: (l.map Prod.fst ++ X.map Prod.fst)) :=
  List.perm_middle.trans ((List.perm_middle.trans (List.perm_middle.cons _)).cons _)
 refine e.nodup_iff.mpr (List.nodup_cons.mpr ⟨λq=>?_,List.nodup_cons.mpr ⟨λq=>?_,List.nodup_cons.mpr ⟨λq=>(hn _ q).2.2 rfl,nd⟩⟩⟩)
 ·rcases List.mem_cons.mp q with q | q
  ·exact h.1 q
  ·rcases List.mem_cons.mp q with q | q
   ·exact h.2.1 q
   ·exact (hn _ q).1 rfl
 ·rcases List.mem_cons.mp q with q | q
  ·exact h.2.2 q
  ·exact (hn _ q).2.1 rfl
theorem nodup_drop3 {I C D:Addr} {oI oC oD:Obj} {l X:List (Addr × Obj)} (nd:((l ++ (I,oI) :: (C,oC) :: (D,oD) :: X).map Prod.fst).Nodup) :
  ((l ++ X).map Prod.fst).Nodup∧Off3 I C D (l ++ X):=by
 rw [List.map_append,List.map_cons,List.map_cons,List.map_cons] at nd
 have e:(l.map Prod.fst ++ I :: C :: D :: X.map Prod.fst).Perm (I :: C :: D :: (l.map Prod.fst ++ X.map Prod.fst)) :=
  List.perm_middle.trans ((List.perm_middle.trans (List.perm_middle.cons _)).cons _)
 have nd:=e.nodup_iff.mp nd
 obtain ⟨n1,nd⟩:=List.nodup_cons.mp nd
 obtain ⟨n2,nd⟩:=List.nodup_cons.mp nd
 obtain ⟨n3,nd⟩:=List.nodup_cons.mp nd
 refine ⟨by rw [List.map_append];exact nd,Off3.of λp hp=>?_⟩
 have hp:p.1 ∈ l.map Prod.fst ++ X.map Prod.fst:=by rw [← List.map_append];exact List.mem_map_of_mem hp
 refine ⟨λq=>n1 (.tail _ (.tail _ (q ▸ hp))),λq=>n2 (.tail _ (q ▸ hp)),λq=>n3 (q ▸ hp)⟩
theorem rest_list {f:V→Hp→Option (V × Hp)} {e:En} {elt:PySem.Expr} {x:Str} {scope:Scope} {cl:List (Str × Addr)} (hf:EltOk prog w nm ca A h₀ L env T f e elt x scope cl)
  {r:Nat} {l:List V} {ax:Addr} {φ:List Addr} {vs₀:List Value} (hφ:VRs φ l vs₀) (hax:φ[r]?=some ax) {s:Shared} {m:Str→Option Value} {X:List (Addr × Obj)} {Fin:List Value→List (Addr × Obj)→Prop} {res:V} {H':Hp} :
  ∀ (rest acc:List V) (H:Hp),compL f r l rest acc H=some (res,H')→∀ (R:List RO) (ys:List Value) (i:Nat),rest=l.drop i→i ≤ l.length→HR w.params nm ca R H→((led R ++ X).map Prod.fst).Nodup→φ <+: ads R →
   EnvN T env L [] m (ads R) e→VRs (ads R) acc ys→SrcIn ax φ l (led R ++ X) →
   (∀ (R':List RO) (ys':List V × List Value) (H₁:Hp),compL f r l [] ys'.1 H₁=some (res,H')→HR w.params nm ca R' H₁→((led R' ++ X).map Prod.fst).Nodup→ads R <+: ads R'→VRs (ads R') ys'.1 ys'.2→Fin ys'.2 (led R' ++ X)) →
   CompRest prog w A h₀ L m env elt x scope cl s (SrcIn ax φ l) (λi v=>∃ u,l[i]?=some u∧VR φ u v) Fin (l.length - i) i ys (led R ++ X)
 | [],acc,H,hc,R,ys,i,hi,hil,hr,nd,hp,hE,hy,hS,hF=>by
  have:l.length - i=0:=by
   have:(l.drop i).length=0:=by rw [← hi];rfl
   rw [List.length_drop] at this;exact this
  rw [this]
  exact CompRest.zero (hF R (acc,ys) H hc hr nd (List.prefix_refl _) hy)
 | v :: rest,acc,H,hc,R,ys,i,hi,hil,hr,nd,hp,hE,hy,hS,hF=>by
  have hlen:l.length - i=(l.length - (i + 1)) + 1:=by
   have:(l.drop i).length=rest.length + 1:=by rw [← hi];rfl
   rw [List.length_drop] at this;lia
  have hvi:l[i]?=some v:=by
   have:(l.drop i)[0]?=some v:=by rw [← hi];rfl
   simpa using this
  have hrest:rest=l.drop (i + 1):=by
   have:(l.drop i).drop 1=rest:=by rw [← hi];rfl
   rw [List.drop_drop] at this;exact this.symm
  rw [hlen]
  unfold compL at hc
  split at hc
  ·rename_i hrl
   split at hc
   ·rename_i u H₁ he
    refine CompRest.succ λv' I oI C oC D m₂ h tk E' hP hoC hx F N off hne=>?_
    obtain ⟨u',hu',hvr⟩:=hP
    rw [hvi] at hu'
    cases hu'
    have hR:Rep w.params nm ca h₀ L ((I,oI) :: (C,oC) :: (D,lst ys) :: X) m h R H:=⟨F,λq hq=>N q (by
     rcases List.mem_append.mp hq with q1 | q1
     ·exact .tail _ (.tail _ (.tail _ (List.mem_append_left _ q1)))
     ·rcases List.mem_cons.mp q1 with rfl | q1
      ·exact .head _
      ·rcases List.mem_cons.mp q1 with rfl | q1
       ·exact .tail _ (.head _)
       ·rcases List.mem_cons.mp q1 with rfl | q1
        ·exact .tail _ (.tail _ (.head _))
        ·exact .tail _ (.tail _ (.tail _ (List.mem_append_right _ q1)))),nodup_three nd off hne,hr⟩
    have hE':EnvN T env L ((I,oI) :: (C,oC) :: (D,lst ys) :: X) m (ads R) e:=by
     obtain ⟨m3,q1,q2⟩:=hE
     refine ⟨m3,?_,q2⟩
     rcases q1 with q1 | ⟨_,q1,_⟩
     ·exact .inl q1
     ·cases q1
    refine hf v H u H₁ he C oC m₂ v' { s with heap:=h,toks:=tk } m R _ _ _ hR (.tail _ (.head _)) (nsOb_of hoC) hx (hvr.mono hp) hE' λh' tk' R' y hR' e1 vy=>?_
    obtain ⟨nd',off'⟩:=nodup_drop3 hR'.nd
    have hsrc:SrcIn ax φ l (led R' ++ X):=by
     have hr1:H₁[r]?=some (.list l):=by
      cases rest with
      | nil=>unfold compL at hc;split at hc <;> first | assumption | cases hc
      | cons _ _=>unfold compL at hc;split at hc <;> first | assumption | cases hc
     have hv:VR (ads R') (.ref r) (.ref ax):=⟨ax,by
      obtain ⟨S,hS⟩:=hp.trans e1
      rw [← hS,List.getElem?_append_left (List.getElem?_eq_some_iff.mp hax).1];exact hax,rfl⟩
     obtain ⟨x',vs',n',e',q1,q2,_⟩:=hR'.getList hr1 hv
     cases e'
     exact ⟨vs',n',List.mem_append_left _ (led_one q1),hφ.back (hp.trans e1) q2⟩
    refine ⟨h',tk',led R' ++ X,rfl,hR'.F,λq hq=>hR'.N q ?_,off',hsrc,?_⟩
    ·rcases List.mem_cons.mp hq with rfl | hq
     ·exact List.mem_append_right _ (.head _)
     ·rcases List.mem_cons.mp hq with rfl | hq
      ·exact List.mem_append_right _ (.tail _ (.head _))
      ·rcases List.mem_cons.mp hq with rfl | hq
       ·exact List.mem_append_right _ (.tail _ (.tail _ (.head _)))
       ·rcases List.mem_append.mp hq with q1 | q1
        ·exact List.mem_append_left _ q1
        ·exact List.mem_append_right _ (.tail _ (.tail _ (.tail _ q1)))
    ·refine rest_list hf hφ hax rest (acc ++ [u]) H₁ hc R' (ys ++ [y]) (i + 1) hrest (by have:i < l.length:=(List.getElem?_eq_some_iff.mp hvi).1;assumption) hR'.hr nd' (hp.trans e1) (hE.mono e1) ((hy.mono e1).append ⟨vy,trivial⟩) hsrc
      λR2 ys' H2 q1 q2 q3 q4 q5=>hF R2 ys' H2 q1 q2 q3 (e1.trans q4) q5
   ·cases hc
  ·cases hc
end
noncomputable def setLike (e:PySem.Expr):Bool:=e.ctorIdx == 7
theorem compL_some {o:Option (V × Hp)} {F:Nat→List V→Hp→Option (V × Hp)} {q:V × Hp} (h:(match o with | some (.ref r,h)=>(match h[r]? with | some (.list l)=>if l.length < capL then F r l h else Option.none | _=>Option.none) | _=>Option.none)=some q) :
  Ex3 λr l H1=>And4 (o=some (.ref r,H1)) (H1[r]?=some (.list l)) (l.length < capL) (F r l H1=some q):=by
 cases o with
 | none=>cases h
 | some p =>
  obtain ⟨u,H1⟩:=p
  induction u <;> first | exact nomatch (show Option.none=some q from h) | skip
  rename_i r
  have h:(match H1[r]? with | some (.list l)=>if l.length < capL then F r l H1 else Option.none | _=>Option.none)=some q:=h
  cases hr:H1[r]? with
  | none=>rw [hr] at h;cases h
  | some ob =>
   rw [hr] at h
   induction ob <;> first | exact nomatch (show Option.none=some q from h) | skip
   rename_i l
   have h:(if l.length < capL then F r l H1 else Option.none)=some q:=h
   by_cases c:l.length < capL
   ·rw [if_pos c] at h;exact ⟨r,l,H1,rfl,hr,c,h⟩
   ·rw [if_neg c] at h;cases h
theorem int_some {o:Option (V × Hp)} {f:Int→Hp→Option (V × Hp)} {q:V × Hp} (h:(match o with | some (.int i,h)=>f i h | _=>Option.none)=some q):Ex2 λi H1=>o=some (.int i,H1)∧f i H1=some q:=by
 cases o with
 | none=>cases h
 | some p =>
  obtain ⟨u,H1⟩:=p
  induction u <;> first | exact nomatch (show Option.none=some q from h) | exact ⟨_,H1,rfl,h⟩
section
variable {prog:Program} {w:World} {K:Frag} {p:Program} {loose:List Str} {mg mb:Str→Option Value} {A A₀:Around} {base h₀:Heap} {outer:List Env} {env:Env} {L:Addr} {d n:Nat} {nm:Nat→Str} {ca:CA} {fa:Nat→Addr} {T:Tb} {call:CallF}
theorem folded_plain {it:PySem.Expr} (h:setLike it=false) (env:Env) (x:Value):foldedSetIterable it env x=pure x:=by
 unfold foldedSetIterable
 induction it using PySem.Expr.casesOn <;> first | rfl | exact nomatch (show true=false from h)
theorem rest_range {f:V→Hp→Option (V × Hp)} {e:En} {elt:PySem.Expr} {x:Str} {scope:Scope} {cl:List (Str × Addr)} (hf:EltOk prog w nm ca A h₀ L env T f e elt x scope cl)
  {a c:Int} {s:Shared} {m:Str→Option Value} {X:List (Addr × Obj)} {Fin:List Value→List (Addr × Obj)→Prop} {res:V} {H':Hp} :
  ∀ (n i:Nat) (acc:List V) (H:Hp),compRL f a c n i acc H=some (res,H')→∀ (R:List RO) (ys:List Value),HR w.params nm ca R H→((led R ++ X).map Prod.fst).Nodup →
   EnvN T env L [] m (ads R) e→VRs (ads R) acc ys →
   (∀ (R':List RO) (ys':List V × List Value) (H₁:Hp),res = .ref H₁.length→H'=H₁ ++ [.list ys'.1]→HR w.params nm ca R' H₁→((led R' ++ X).map Prod.fst).Nodup→ads R <+: ads R'→VRs (ads R') ys'.1 ys'.2→Fin ys'.2 (led R' ++ X)) →
   CompRest prog w A h₀ L m env elt x scope cl s (λ_=>True) (λi v=>∃ t,v = .int (a + i * c) t) Fin n i ys (led R ++ X)
 | 0,i,acc,H,hc,R,ys,hr,nd,hE,hy,hF=>by
  unfold compRL at hc
  obtain ⟨rfl,rfl⟩:V.ref H.length=res∧H ++ [.list acc]=H':=by simpa using hc
  exact CompRest.zero (hF R (acc,ys) H rfl rfl hr nd (List.prefix_refl _) hy)
 | n + 1,i,acc,H,hc,R,ys,hr,nd,hE,hy,hF=>by
  unfold compRL at hc
  split at hc
  ·rename_i u H₁ he
   refine CompRest.succ λv' I oI C oC D m₂ h tk E' hP hoC hx F N off hne=>?_
   obtain ⟨t,rfl⟩:=hP
   have hR:Rep w.params nm ca h₀ L ((I,oI) :: (C,oC) :: (D,lst ys) :: X) m h R H:=⟨F,λq hq=>N q (by
    rcases List.mem_append.mp hq with q1 | q1
    ·exact .tail _ (.tail _ (.tail _ (List.mem_append_left _ q1)))
    ·rcases List.mem_cons.mp q1 with rfl | q1
     ·exact .head _
     ·rcases List.mem_cons.mp q1 with rfl | q1
      ·exact .tail _ (.head _)
      ·rcases List.mem_cons.mp q1 with rfl | q1
       ·exact .tail _ (.tail _ (.head _))
       ·exact .tail _ (.tail _ (.tail _ (List.mem_append_right _ q1)))),nodup_three nd off hne,hr⟩
   have hE':EnvN T env L ((I,oI) :: (C,oC) :: (D,lst ys) :: X) m (ads R) e:=by
    obtain ⟨m3,q1,q2⟩:=hE
    refine ⟨m3,?_,q2⟩
    rcases q1 with q1 | ⟨_,q1,_⟩
    ·exact .inl q1
    ·cases q1
   refine hf _ H u H₁ he C oC m₂ _ { s with heap:=h,toks:=tk } m R _ _ _ hR (.tail _ (.head _)) (nsOb_of hoC) hx ⟨t,by rw [Int.mul_comm]⟩ hE' λh' tk' R' y hR' e1 vy=>?_
   obtain ⟨nd',off'⟩:=nodup_drop3 hR'.nd
   refine ⟨h',tk',led R' ++ X,rfl,hR'.F,λq hq=>hR'.N q ?_,off',trivial,?_⟩
   ·rcases List.mem_cons.mp hq with rfl | hq
    ·exact List.mem_append_right _ (.head _)
    ·rcases List.mem_cons.mp hq with rfl | hq
     ·exact List.mem_append_right _ (.tail _ (.head _))
     ·rcases List.mem_cons.mp hq with rfl | hq
      ·exact List.mem_append_right _ (.tail _ (.tail _ (.head _)))
      ·rcases List.mem_append.mp hq with q1 | q1
       ·exact List.mem_append_left _ q1
       ·exact List.mem_append_right _ (.tail _ (.tail _ (.tail _ q1)))
   ·exact rest_range hf n (i + 1) (acc ++ [u]) H₁ hc R' (ys ++ [y]) hR'.hr nd' (hE.mono e1) ((hy.mono e1).append ⟨vy,trivial⟩)
     λR2 ys' H2 q0 q0' q1 q2 q3 q4=>hF R2 ys' H2 q0 q0' q1 q2 (e1.trans q3) q4
  ·cases hc
structure ScOk (scope:Scope) (env:Env) (x:Str) (cl:List (Str × Addr)):Prop where
 hclos:closureFor scope env=pure cl
 hcell:∀ y ∈ scope.names,y.2 ≠ .cell
 hkind:scope.kind = .function
 hnames:∀ y ∈ scope.names,y.2 = .local→scope.names.lookup y.1=some .local
 hx:scope.names.lookup x=some .local
theorem fin_rep {R:List RO} {ys:List V × List Value} {H₁:Hp} {m:Str→Option Value} {X:List (Addr × Obj)} {D:Addr} {h:Heap} (hr:HR w.params nm ca R H₁) (nd:((led R ++ X).map Prod.fst).Nodup) (hv:VRs (ads R) ys.1 ys.2)
  (F:Fr h₀ L h m) (N:News h₀ L h ((D,lst ys.2) :: (led R ++ X))) (off:Off1 D (led R ++ X)) :
  ∃ R',And3 (Rep w.params nm ca h₀ L X m h R' (H₁ ++ [.list ys.1])) (ads R <+: ads R') (VR (ads R') (.ref H₁.length) (.ref D)):=by
 have offm:∀ {l:List (Addr × Obj)},Off1 D l→∀ p ∈ l,p.1 ≠ D:=fun {l}=>by
  induction l with
  | nil=>intro _ p hp;cases hp
  | cons q l ih=>intro o p hp;rcases List.mem_cons.mp hp with rfl | hp;exact o.1;exact ih o.2 p hp
 have e:led (R ++ [.one D (lst ys.2)]) ++ X=led R ++ (D,lst ys.2) :: X:=by rw [led_append];simp [led,RO.seg]
 refine ⟨R ++ [.one D (lst ys.2)],⟨F,?_,?_,hr.push ⟨D,ys.2,_,rfl,hv.mono (List.prefix_append ..)⟩⟩,by rw [ads_append];exact List.prefix_append ..,D,?_,rfl⟩
 ·rw [e]
  intro p hp
  apply N
  rcases List.mem_append.mp hp with q | q
  ·exact .tail _ (List.mem_append_left _ q)
  ·rcases List.mem_cons.mp q with rfl | q
   ·exact .head _
   ·exact .tail _ (List.mem_append_right _ q)
 ·rw [e,List.map_append,List.map_cons]
  rw [List.map_append] at nd
  refine (List.perm_middle.nodup_iff).mpr (List.nodup_cons.mpr ⟨λq=>?_,nd⟩)
  rw [← List.map_append] at q
  obtain ⟨p,hp,hpe⟩:=List.mem_map.mp q
  exact offm off p hp hpe
 ·rw [ads_append,List.getElem?_append_right (by simp [ads,hr.len])];simp [ads,RO.at,hr.len]
theorem compL_nil {f:V→Hp→Option (V × Hp)} {r:Nat} {l acc:List V} {H:Hp} {res:V} {H':Hp} (h:compL f r l [] acc H=some (res,H')):res = .ref H.length∧H'=H ++ [.list acc]:=by
 unfold compL at h
 split at h
 ·have:V.ref H.length=res∧H ++ [.list acc]=H':=by simpa using h
  exact ⟨this.1.symm,this.2.symm⟩
 ·cases h
theorem EnvN.here {X:List (Addr × Obj)} {m:Str→Option Value} {φ:List Addr} {e:En} (h:EnvN T env L X m φ e) (hl:env.locals=L) {P:Params} {hp:Heap} {R:List RO} {H:Hp} (hR:Rep P nm ca h₀ L X m hp R H):EnvN T env L [] m φ e:=by
 obtain ⟨m₂,a,b⟩:=h
 refine ⟨m₂,.inl ?_,b⟩
 rcases a with a | ⟨o,ho,_⟩
 ·exact a
 ·exact absurd hl (hR.N _ (List.mem_append_right _ ho)).2.1
theorem comp_list (hh:A.handled=none) {f:V→Hp→Option (V × Hp)} {e:En} {elt iter:PySem.Expr} {x:Str} {px pos:Pos} {scope:Scope} {cl:List (Str × Addr)} (hs:ScOk scope env x cl) (hf:EltOk prog w nm ca A h₀ L env T f e elt x scope cl)
  {r:Nat} {l:List V} {H H':Hp} {res:V} (hl:H[r]?=some (.list l)) (hcap:l.length < capL) (hc:compL f r l l [] H=some (res,H')) {use:Option (Value→Sem Unit)} {Q:Value→Shared→Prop} {E:Value→Shared→Prop}
  {s:Shared} {m:Str→Option Value} {R:List RO} {X:List (Addr × Obj)} {u:Value} (hR:Rep w.params nm ca h₀ L X m s.heap R H) (hu:VR (ads R) (.ref r) u) (hE:EnvN T env L [] m (ads R) e)
  (k:∀ D C h tk R' m' (ys:List V × List Value) H₁,Fr h₀ L h m→News h₀ L h ((D,lst ys.2) :: (led R' ++ X))→Off1 D (led R' ++ X)→h.Ns C m'→h₀.get? C=none→h₀.get? D=none→C ≠ L→D ≠ L→C ≠ D→(∀ p ∈ led R' ++ X,p.1 ≠ C) →
   res = .ref H₁.length→H'=H₁ ++ [.list ys.1]→HR w.params nm ca R' H₁→((led R' ++ X).map Prod.fst).Nodup→ads R <+: ads R'→VRs (ads R') ys.1 ys.2→compPost (model prog w) A E use Q (.ref D) C (.ok .next) { s with heap:=h,toks:=tk }) :
  wpAny (model prog w) A (pyIter u) (λit s₂=>wpAny (model prog w) A (newList []) (λacc s₃=>wpAny (model prog w) A (newFunctionEnv scope env.globals cl [] env.qual none .none (some env)) (λcenv s₄ =>
   codeAny (model prog w) A (.compStart (.ListComp elt [⟨.Name x px,iter,[],0⟩] scope pos) 0 it acc { cenv with scope:=relabel scope env }) (compPost (model prog w) A E use Q acc cenv.locals) s₄) E s₃) E s₂) E s:=by
 obtain ⟨ax,vs,nn,rfl,q1,hvs,L1⟩:=hR.getList hl hu
 have hlt:ax < s.heap.objs.size:=by obtain ⟨_,e,_⟩:=L1;exact Heap.lt_size e
 refine wpAny_pyIter_list L1 ?_
 have up:∀ b o,s.heap.get? b=some o→(s.heap.push { cls:=.type "list_iterator",data:=.fields #[.ref ax,.int 0 0] }).get? b=some o:=λb o e=>Heap.get?_push_of_some _ e
 have hax:(ads R)[r]?=some ax:=by obtain ⟨a,h1,h2⟩:=hu;cases h2;exact h1
 refine block_U (S:=SrcIn ax (ads R) l) (news:=led R ++ X) (Fin:=λys news=>∃ R' yv H₁,news=led R' ++ X∧res = .ref H₁.length∧H'=H₁ ++ [.list yv]∧HR w.params nm ca R' H₁∧((led R' ++ X).map Prod.fst).Nodup∧ads R <+: ads R'∧VRs (ads R') yv ys)
  (walk_vals hh s.heap.objs.size ax (Nat.ne_of_lt hlt) (ads R) l) (capL_line hcap) (λi h st=>by obtain ⟨o,e,_⟩:=st.1;exact ⟨o,e⟩) ?_ hs.hcell hs.hkind hs.hx ⟨⟨_,Heap.get?_push_size _ rfl,rfl,rfl⟩,vs,L1.push _,hvs⟩ (λb hb=>?_)
  (hR.F.keeps up) (hR.N.grown up) (Nat.ne_of_lt hR.F.ns.lt) (next_is_new hR.F) (λp hp=>Nat.ne_of_lt (Heap.lt_size (hR.N p hp).1)) ⟨vs,nn,List.mem_append_left _ (led_one q1),hvs⟩ ?_ ?_
 ·intro i h h' o nw st e1 e2 kk N S
  obtain ⟨s1,_⟩:=st
  obtain ⟨o',q,rr⟩:=s1
  rw [e1] at q;cases q
  obtain ⟨vs',n',hm,hv⟩:=S
  exact ⟨⟨o,e2,rr⟩,vs',⟨_,(N _ hm).1,rfl,n',rfl⟩,hv⟩
 ·show b < (s.heap.push _).objs.size
  rw [Heap.size_push]
  rcases List.mem_cons.mp hb with rfl | hb
  ·exact Nat.lt_succ_self _
  ·rw [List.mem_singleton.mp hb];exact Nat.lt_succ_of_lt hlt
 ·exact rest_list hf hvs hax l [] H hc R [] 0 rfl (Nat.zero_le _) hR.hr hR.nd (List.prefix_refl _) hE trivial ⟨vs,nn,List.mem_append_left _ (led_one q1),hvs⟩ λR' ys' H₁ q1 q2 q3 q4 q5 =>
   ⟨R',ys'.1,H₁,rfl,(compL_nil q1).1,(compL_nil q1).2,q2,q3,q4,q5⟩
 ·intro D C h tk m' ys news' F' N' o1 hn hC₀ hD₀ hCL hDL hCD offC fin
  obtain ⟨R',yv,H₁,rfl,f1,f2,f3,f4,f5,f6⟩:=fin
  exact k D C h tk R' m' (yv,ys) H₁ F' N' o1 hn hC₀ hD₀ hCL hDL hCD offC f1 f2 f3 f4 f5 f6
theorem s_comp (hh:A.handled=none) {F:En→V→Hp→Option (V × Hp)} {ra:En→Hp→Option (V × Hp)} {elt iter:PySem.Expr} {x:Str} {px pos:Pos} {scope:Scope} {cl:List (Str × Addr)} (hl:env.locals=L) (hs:ScOk scope env x cl)
  (hf:∀ e,EltOk prog w nm ca A h₀ L env T (F e) e elt x scope cl) (hset:setLike iter=false) (ha:SoundAt prog w nm ca A h₀ L env T ra (eval iter env)) :
  SoundAt prog w nm ca A h₀ L env T (λe H=>match ra e H with
   | some (.ref r,h)=>match h[r]? with
    | some (.list l)=>if l.length < capL then compL (F e) r l l [] h else Option.none
    | _=>Option.none
   | _=>Option.none) (eval (.ListComp elt [⟨.Name x px,iter,[],0⟩] scope pos) env):=by
 intro e H v H' hv s m R X Q E hR hE k
 obtain ⟨r,l,H1,h1,hlr,hcap,hv⟩:=compL_some hv
 rw [eval_ListComp]
 refine wpAny_comprehension_free (use:=none) rfl (λy=>folded_plain hset env y) hs.hclos hs.hkind hs.hnames ?_
 refine ha e H (.ref r) H1 h1 s m R X _ _ hR hE λh' tk R' a hR' e1 va=>?_
 refine comp_list hh (s:={ s with heap:=h',toks:=tk }) hs (hf e) hlr hcap hv hR' va ((hE.mono e1).here hl hR') ?_
 intro D C h2 tk2 R2 m' ys H₁ F' N' o1 hn hC₀ hD₀ hCL hDL hCD offC f1 f2 f3 f4 f5 f6
 refine ⟨m',hn,λh'' hs''=>?_⟩
 obtain ⟨R3,r1,r2,r3⟩:=fin_rep f3 f4 f6 (F'.change hs'' hCL hC₀) (λp hp=>by
  refine ⟨hs''.extBut _ _ ?_ (N' p hp).1,(N' p hp).2⟩
  rcases List.mem_cons.mp hp with rfl | hp
  ·exact Ne.symm hCD
  ·exact offC p hp) o1
 subst f1 f2
 exact k h'' tk2 R3 _ r1 ((e1.trans f5).trans r2) r3
theorem x_compL (hh:A.handled=none) {F:En→V→Hp→Option (V × Hp)} {ra:En→Hp→Option (V × Hp)} {elt iter:PySem.Expr} {x y:Str} {px py pos spos:Pos} {scope:Scope} {cl:List (Str × Addr)} (hl:env.locals=L) (hs:ScOk scope env x cl)
  (hf:∀ e,EltOk prog w nm ca A h₀ L env T (F e) e elt x scope cl) (hset:setLike iter=false) (ha:SoundAt prog w nm ca A h₀ L env T ra (eval iter env))
  (hsw:swapsWith (.ListComp elt [⟨.Name x px,iter,[],0⟩] scope pos) (some (.Name y py)) spos.line env=pure true)
  (hy:env.kindOf y=some .local) (hp:(env.scope.kind == .class || (env.scope.kind == .module && env.locals != env.globals))=false)
  {e:En} {H:Hp} {r:Nat} {H1:Hp} (h1:ra e H=some (.ref r,H1)) {l:List V} (hlr:H1[r]?=some (.list l)) (hcap:l.length < capL) {v:V} {H':Hp} (hv:compL (F e) r l l [] H1=some (v,H'))
  {s:Shared} {m:Str→Option Value} {R:List RO} {X:List (Addr × Obj)} {Q:Flow→Shared→Prop} {E:Value→Shared→Prop} (hR:Rep w.params nm ca h₀ L X m s.heap R H) (hE:EnvN T env L X m (ads R) e)
  (k:∀ h' tk R' u,Rep w.params nm ca h₀ L X (λz=>if z=y then some u else m z) h' R' H'→ads R <+: ads R'→VR (ads R') v u→Q .next { s with heap:=h',toks:=tk }) :
  wpAny (model prog w) A (exec (.Assign [.Name y py] (.ListComp elt [⟨.Name x px,iter,[],0⟩] scope pos) spos) env) Q E s:=by
 subst hl
 rw [exec_Assign_Name_used _ _ _ _ hsw]
 refine wpAny_bind (wpAny_standAt (wpAny_bind ?_))
 show wpAny _ A (do let _ ← comprehension (.ListComp elt [⟨.Name x px,iter,[],0⟩] scope pos) scope env _ (newList []) false (eval iter env) (some (assign (.Name y py) env))) _ _ s
 refine wpAny_bind (wpAny_mono (wpAny_comprehension_free (use:=some (assign (.Name y py) env)) (Q:=λ_ s'=>Q .next s') rfl (λy=>folded_plain hset env y) hs.hclos hs.hkind hs.hnames ?_) (λ_ s' hq=>wpAny_pure (wpAny_pure hq)) λ_ _ e=>e)
 refine ha e H (.ref r) H1 h1 s m R X _ _ hR hE λh' tk R' a hR' e1 va=>?_
 refine comp_list hh (s:={ s with heap:=h',toks:=tk }) hs (hf e) hlr hcap hv hR' va ((hE.mono e1).here rfl hR') ?_
 intro D C h2 tk2 R2 m' ys H₁ F' N' o1 hn hC₀ hD₀ hCL hDL hCD offC f1 f2 f3 f4 f5 f6
 show wpAny _ A (assign (.Name y py) env (.ref D)) _ _ _
 refine wpAny_assign_Name (wpAny_storeName_local hy F'.ns (λh₂ hn₂ hs₂=>?_) hp)
 have hL₀:h₀.get? env.locals=none:=Heap.get?_none_of_le F'.above
 have F₂:Fr h₀ env.locals h₂ (λz=>if z=y then some (.ref D) else m z):=⟨hn₂,λb o e=>hs₂.extBut b o (λq=>by rw [q,hL₀] at e;cases e) (F'.keep b o e),F'.above⟩
 refine ⟨m',hn.sameBut hs₂ hCL,λh'' hs''=>?_⟩
 obtain ⟨R3,r1,r2,r3⟩:=fin_rep f3 f4 f6 (F₂.change hs'' hCL hC₀) (λp hp=>by
  have z:h₂.get? p.1=some p.2:=hs₂.extBut _ _ (N' p hp).2.1 (N' p hp).1
  refine ⟨hs''.extBut _ _ ?_ z,(N' p hp).2⟩
  rcases List.mem_cons.mp hp with rfl | hp
  ·exact Ne.symm hCD
  ·exact offC p hp) o1
 subst f1 f2
 exact k h'' _ R3 _ r1 ((e1.trans f5).trans r2) r3
end
theorem boot_range:bootBuiltins "range"=some (.type "range"):=by decide +kernel
theorem rangeOk_of {a b c:Int} (h:rangeOk a b c=true):(-(2 ^ 62) < a∧a < 2 ^ 62)∧(-(2 ^ 62) < b∧b < 2 ^ 62)∧0 < c∧c < 1073741824:=by
 unfold rangeOk at h
 simp only [Bool.and_eq_true,decide_eq_true_eq] at h
 exact ⟨small_of h.1.1.1,small_of h.1.1.2,h.1.2,h.2⟩
theorem range_size {a b c:Int} (hc:0 < c):Builtin.Range.rangeSize a b c=((rangeCount a b c:Nat):Int):=by
 unfold Builtin.Range.rangeSize rangeCount
 rw [if_pos hc]
 split
 ·have:0 ≤ (b - a - 1) / c:=Int.ediv_nonneg (by lia) (by exact Int.le_of_lt ‹_›)
  lia
 ·rfl
theorem range_small {a b c:Int} (h:rangeOk a b c=true):Builtin.Range.small a b c=true:=by
 obtain ⟨h1,h2,h3,h4⟩:=rangeOk_of h
 have hs:=range_size (a:=a) (b:=b) h3
 have hle:Builtin.Range.rangeSize a b c ≤ 2 ^ 63 - 1∧0 ≤ Builtin.Range.rangeSize a b c:=by
  refine ⟨?_,by rw [hs];exact Int.natCast_nonneg _⟩
  unfold Builtin.Range.rangeSize
  rw [if_pos h3]
  split
  ·have:(b - a - 1) / c ≤ b - a - 1:=Int.ediv_le_self _ (by lia)
   lia
  ·exact Int.natCast_nonneg _
 unfold Builtin.Range.small Builtin.Range.rangeFitsLong
 simp only [Bool.and_eq_true,Bool.or_eq_true,decide_eq_true_eq]
 refine ⟨⟨⟨⟨⟨by lia,by lia⟩,by lia,by lia⟩,by lia,by lia⟩,by lia,by lia⟩,.inr ?_⟩
 rw [if_pos h3]
 simp only [Bool.and_eq_true,decide_eq_true_eq]
 lia
section
variable {prog:Program} {w:World} {K:Frag} {p:Program} {loose:List Str} {mg mb:Str→Option Value} {A A₀:Around} {base h₀:Heap} {outer:List Env} {env:Env} {L:Addr} {d n:Nat} {nm:Nat→Str} {ca:CA} {fa:Nat→Addr} {T:Tb} {call:CallF}
noncomputable def RngOk (prog:Program) (w:World) (nm:Nat→Str) (ca:CA) (A:Around) (h₀:Heap) (L:Addr) (env:Env) (T:Tb) (ra rb rc:En→Hp→Option (V × Hp)) (t:Sem Value):Prop :=
 ∀ (e:En) (H:Hp) (i j k:Int) (H1 H2 H3:Hp),ra e H=some (.int i,H1)→rb e H1=some (.int j,H2)→rc e H2=some (.int k,H3)→rangeOk i j k=true→∀ (s:Shared) (m:Str→Option Value) (R:List RO) (X:List (Addr × Obj)) (Q:Value→Shared→Prop) (E:Value→Shared→Prop),
  Rep w.params nm ca h₀ L X m s.heap R H→EnvN T env L X m (ads R) e →
  (∀ h' tk R' r t u v,Rep w.params nm ca h₀ L X m h' R' H3→ads R <+: ads R'→IsRange h' r i j k t u v→Q (.ref r) { s with heap:=h',toks:=tk }) →
  wpAny (model prog w) A t Q E s
theorem rng1 (C:Cx0 K p loose mg mb A h₀ env L) {rb:En→Hp→Option (V × Hp)} {y:PySem.Expr} {pos pos':Pos} (hk:T.names=env.scope.names) (h:T.glb "range"=true) (hx:nsIn K mainGlobals "range"=some none)
  (hs:starLike y=false) (hb:SoundAt prog w nm ca A h₀ L env T rb (eval y env)) :
  RngOk prog w nm ca A h₀ L env T (λ_ H=>some (.int 0,H)) rb (λ_ H=>some (.int 1,H)) (eval (.Call (.Name "range" pos') [y] [] pos) env):=by
 intro e H i j k H1 H2 H3 h1 h2 h3 hok s m R X Q E hR hE q
 cases h1;cases h3
 refine Call_ (bname C hk h hx boot_range (by decide +kernel) hR.F (callW (P:=λ_=>True) (λh _=>⟨_,.inr (.inl rfl),looks_machine (λa q=>by cases q)⟩) (λq hq=>by rw [List.mem_singleton.mp hq];exact hs) ?_))
 refine spliced_more (hb e _ _ _ h2 s m R X _ _ hR hE λh' tk R' a hR' p1 va=>spliced_none ⟨trivial,?_⟩) (starEach_cons hs _ _)
 obtain ⟨t,rfl⟩:=va
 refine range1_rows hR'.F hR'.N λh2 tk2 t1 u1 v1 hr F' N' hk=>?_
 exact q h2 tk2 R' _ t1 u1 v1 ⟨F',N',hR'.nd,hR'.hr⟩ p1 hr
theorem rng2 (C:Cx0 K p loose mg mb A h₀ env L) {ra rb:En→Hp→Option (V × Hp)} {x y:PySem.Expr} {pos pos':Pos} (hk:T.names=env.scope.names) (h:T.glb "range"=true) (hx:nsIn K mainGlobals "range"=some none)
  (hs0:starLike x=false) (ha:SoundAt prog w nm ca A h₀ L env T ra (eval x env)) (hs:starLike y=false) (hb:SoundAt prog w nm ca A h₀ L env T rb (eval y env)) :
  RngOk prog w nm ca A h₀ L env T ra rb (λ_ H=>some (.int 1,H)) (eval (.Call (.Name "range" pos') [x,y] [] pos) env):=by
 intro e H i j k H1 H2 H3 h1 h2 h3 hok s m R X Q E hR hE q
 cases h3
 refine Call_ (bname C hk h hx boot_range (by decide +kernel) hR.F (callW (P:=λ_=>True) (λh _=>⟨_,.inr (.inl rfl),looks_machine (λa q=>by cases q)⟩) (λq hq=>by
  rcases List.mem_cons.mp hq with rfl | hq
  ·exact hs0
  ·rw [List.mem_singleton.mp hq];exact hs) ?_))
 refine spliced_more (ha e _ _ _ h1 s m R X _ _ hR hE λh0 tk0 R0 a0 hR0 p0 va0=>?_) (starEach_cons hs0 _ _)
 refine spliced_more (hb e _ _ _ h2 _ m R0 X _ _ hR0 (hE.mono p0) λh' tk R' a hR' p1 va=>spliced_none ⟨trivial,?_⟩) (starEach_cons hs _ _)
 obtain ⟨t0,rfl⟩:=va0
 obtain ⟨t,rfl⟩:=va
 refine range2_rows hR'.F hR'.N λh2 tk2 t1 u1 v1 hr F' N' hk=>?_
 exact q h2 tk2 R' _ t1 u1 v1 ⟨F',N',hR'.nd,hR'.hr⟩ (p0.trans p1) hr
theorem rng3 (C:Cx0 K p loose mg mb A h₀ env L) {ra rb rc:En→Hp→Option (V × Hp)} {x y z:PySem.Expr} {pos pos':Pos} (hk:T.names=env.scope.names) (h:T.glb "range"=true) (hx:nsIn K mainGlobals "range"=some none)
  (hs0:starLike x=false) (ha:SoundAt prog w nm ca A h₀ L env T ra (eval x env)) (hs:starLike y=false) (hb:SoundAt prog w nm ca A h₀ L env T rb (eval y env)) (hs2:starLike z=false) (hc:SoundAt prog w nm ca A h₀ L env T rc (eval z env)) :
  RngOk prog w nm ca A h₀ L env T ra rb rc (eval (.Call (.Name "range" pos') [x,y,z] [] pos) env):=by
 intro e H i j k H1 H2 H3 h1 h2 h3 hok s m R X Q E hR hE q
 refine Call_ (bname C hk h hx boot_range (by decide +kernel) hR.F (callW (P:=λ_=>True) (λh _=>⟨_,.inr (.inl rfl),looks_machine (λa q=>by cases q)⟩) (λq hq=>by
  rcases List.mem_cons.mp hq with rfl | hq
  ·exact hs0
  ·rcases List.mem_cons.mp hq with rfl | hq
   ·exact hs
   ·rw [List.mem_singleton.mp hq];exact hs2) ?_))
 refine spliced_more (ha e _ _ _ h1 s m R X _ _ hR hE λh0 tk0 R0 a0 hR0 p0 va0=>?_) (starEach_cons hs0 _ _)
 refine spliced_more (hb e _ _ _ h2 _ m R0 X _ _ hR0 (hE.mono p0) λh' tk R' a hR' p1 va=>?_) (starEach_cons hs _ _)
 refine spliced_more (hc e _ _ _ h3 _ m R' X _ _ hR' (hE.mono (p0.trans p1)) λh4 tk4 R4 a4 hR4 p4 va4=>spliced_none ⟨trivial,?_⟩) (starEach_cons hs2 _ _)
 obtain ⟨t0,rfl⟩:=va0
 obtain ⟨t,rfl⟩:=va
 obtain ⟨t4,rfl⟩:=va4
 obtain ⟨_,_,c1,c2⟩:=rangeOk_of hok
 refine range3_rows hR4.F hR4.N (by lia) (λh2 tk2 t1 u1 v1 hr F' N' hk=>?_) (.inl (PyProof.noPylong_small (by omega)))
 exact q h2 tk2 R4 _ t1 u1 v1 ⟨F',N',hR4.nd,hR4.hr⟩ ((p0.trans p1).trans p4) hr
theorem x_compR (hh:A.handled=none) {F:En→V→Hp→Option (V × Hp)} {ra rb rc:En→Hp→Option (V × Hp)} {elt iter:PySem.Expr} {x y:Str} {px py pos spos:Pos} {scope:Scope} {cl:List (Str × Addr)} (hl:env.locals=L) (hs:ScOk scope env x cl)
  (hf:∀ e,EltOk prog w nm ca A h₀ L env T (F e) e elt x scope cl) (hset:setLike iter=false) (ha:RngOk prog w nm ca A h₀ L env T ra rb rc (eval iter env))
  (hsw:swapsWith (.ListComp elt [⟨.Name x px,iter,[],0⟩] scope pos) (some (.Name y py)) spos.line env=pure true)
  (hy:env.kindOf y=some .local) (hp:(env.scope.kind == .class || (env.scope.kind == .module && env.locals != env.globals))=false)
  {e:En} {H H1 H2 H3:Hp} {i j c:Int} (h1:ra e H=some (.int i,H1)) (h2:rb e H1=some (.int j,H2)) (h3:rc e H2=some (.int c,H3)) (hok:rangeOk i j c=true) (hcap:rangeCount i j c < capL)
  {v:V} {H':Hp} (hv:compRL (F e) i c (rangeCount i j c) 0 [] H3=some (v,H'))
  {s:Shared} {m:Str→Option Value} {R:List RO} {X:List (Addr × Obj)} {Q:Flow→Shared→Prop} {E:Value→Shared→Prop} (hR:Rep w.params nm ca h₀ L X m s.heap R H) (hE:EnvN T env L X m (ads R) e)
  (k:∀ h' tk R' u,Rep w.params nm ca h₀ L X (λz=>if z=y then some u else m z) h' R' H'→ads R <+: ads R'→VR (ads R') v u→Q .next { s with heap:=h',toks:=tk }) :
  wpAny (model prog w) A (exec (.Assign [.Name y py] (.ListComp elt [⟨.Name x px,iter,[],0⟩] scope pos) spos) env) Q E s:=by
 subst hl
 rw [exec_Assign_Name_used _ _ _ _ hsw]
 refine wpAny_bind (wpAny_standAt (wpAny_bind ?_))
 show wpAny _ A (do let _ ← comprehension (.ListComp elt [⟨.Name x px,iter,[],0⟩] scope pos) scope env _ (newList []) false (eval iter env) (some (assign (.Name y py) env))) _ _ s
 refine wpAny_bind (wpAny_mono (wpAny_comprehension_free (use:=some (assign (.Name y py) env)) (Q:=λ_ s'=>Q .next s') rfl (λy=>folded_plain hset env y) hs.hclos hs.hkind hs.hnames ?_) (λ_ s' hq=>wpAny_pure (wpAny_pure hq)) λ_ _ e=>e)
 refine ha e H i j c H1 H2 H3 h1 h2 h3 hok s m R X _ _ hR hE λh' tk R' r t u v' hR' e1 hr=>?_
 obtain ⟨c1,c2,c3,c4⟩:=rangeOk_of hok
 refine wpAny_pyIter_range hr (range_small hok) ?_
 rw [range_size c3]
 have lc:∀ {nw:List (Addr × Obj)} {hq:Heap},News h₀ env.locals hq nw→∀ p ∈ nw,p.1 < hq.objs.size:=λN p hp=>Heap.lt_size (N p hp).1
 refine block_U (S:=λ_=>True) (news:=led R' ++ X) (Fin:=λys news=>∃ R'' yv H₁,news=led R'' ++ X∧v = .ref H₁.length∧H'=H₁ ++ [.list yv]∧HR w.params nm ca R'' H₁∧((led R'' ++ X).map Prod.fst).Nodup∧ads R' <+: ads R''∧VRs (ads R'') yv ys)
  (Walks.range hh h'.objs.size i c (rangeCount i j c)) (capL_line hcap) (λi h st=>⟨_,st⟩) (λi h h' o nw st e1 e2 _ _ _=>by
   have st':h.get? _=some _:=st
   show h'.get? _=some _
   rw [e2,← e1];exact st') hs.hcell hs.hkind hs.hx (by show IsRangeIter _ _ _ _ _;simpa using Heap.get?_push_size _ rfl) (λb hb=>?_)
  (hR'.F.keeps λ_ _ e=>Heap.get?_push_of_some _ e) (hR'.N.grown λ_ _ e=>Heap.get?_push_of_some _ e) (Nat.ne_of_lt hR'.F.ns.lt) (next_is_new hR'.F) (λp hp=>Nat.ne_of_lt (lc hR'.N p hp)) trivial ?_ ?_
 ·rw [List.mem_singleton.mp hb]
  show h'.objs.size < (h'.push _).objs.size
  rw [Heap.size_push];exact Nat.lt_succ_self _
 ·exact rest_range (hf e) (rangeCount i j c) 0 [] H3 hv R' [] hR'.hr hR'.nd ((hE.mono e1).here rfl hR') trivial λR2 ys' H₁ q1 q2 q3 q4 q5 q6=>⟨R2,ys'.1,H₁,rfl,q1,q2,q3,q4,q5,q6⟩
 ·intro D C h2 tk2 m' ys news' F' N' o1 hn hC₀ hD₀ hCL hDL hCD offC fin
  obtain ⟨R2,yv,H₁,rfl,f1,f2,f3,f4,f5,f6⟩:=fin
  show wpAny _ A (assign (.Name y py) env (.ref D)) _ _ _
  refine wpAny_assign_Name (wpAny_storeName_local hy F'.ns (λh₂ hn₂ hs₂=>?_) hp)
  have hL₀:h₀.get? env.locals=none:=Heap.get?_none_of_le F'.above
  have F₂:Fr h₀ env.locals h₂ (λz=>if z=y then some (.ref D) else m z):=⟨hn₂,λb o e=>hs₂.extBut b o (λq=>by rw [q,hL₀] at e;cases e) (F'.keep b o e),F'.above⟩
  refine ⟨m',hn.sameBut hs₂ hCL,λh'' hs''=>?_⟩
  obtain ⟨R3,r1,r2,r3⟩:=fin_rep (ys:=(yv,ys)) f3 f4 f6 (F₂.change hs'' hCL hC₀) (λp hp=>by
   have z:h₂.get? p.1=some p.2:=hs₂.extBut _ _ (N' p hp).2.1 (N' p hp).1
   refine ⟨hs''.extBut _ _ ?_ z,(N' p hp).2⟩
   rcases List.mem_cons.mp hp with rfl | hp
   ·exact Ne.symm hCD
   ·exact offC p hp) o1
  subst f1 f2
  exact k h'' _ R3 _ r1 ((e1.trans f5).trans r2) r3
end
end Mine
end
section
open PySem PySem.W PyProof.Rows PySem.Calls
set_option maxRecDepth 100000
namespace Mine
@[reducible] def byteKind:PyProof.Rows.KeyKind where
 α:=List Nat
 blt a b:=decide (a < b)
 irrefl a:=by simpa using List.lt_irrefl a
 trans a b c h1 h2:=by simp only [decide_eq_true_eq] at *;exact List.lt_trans h1 h2
 negTrans a b c h:=by
  simp only [decide_eq_true_eq] at *
  by_cases hab:a < b
  ·exact .inl hab
  ·exact .inr (List.lt_of_le_of_lt (List.not_lt.mp hab) h)
 total a b h1 h2:=by simp only [decide_eq_false_iff_not] at *;exact List.le_antisymm (List.not_lt.mp h2) (List.not_lt.mp h1)
 keyOf v:=match v with | .bytes x _=>some (x.toList.map (·.toNat)) | _=>none
 dflt:=[]
theorem blt_nat:∀ a b:List UInt8,bltB a b=decide (a.map (·.toNat) < b.map (·.toNat))
 | [],[]=>by simp [bltB]
 | [],_ :: _=>by simp [bltB]
 | _ :: _,[]=>by simp [bltB]
 | x :: a,y :: b=>by
  simp only [bltB,List.map_cons]
  rw [blt_nat a b]
  rw [Bool.eq_iff_iff]
  simp only [Bool.or_eq_true,Bool.and_eq_true,decide_eq_true_eq,beq_iff_eq,List.cons_lt_cons_iff]
  constructor
  ·rintro (h | ⟨rfl,h⟩)
   ·exact .inl (UInt8.lt_iff_toNat_lt.mp h)
   ·exact .inr ⟨rfl,h⟩
  ·rintro (h | ⟨h1,h2⟩)
   ·exact .inl (UInt8.lt_iff_toNat_lt.mpr h)
   ·exact .inr ⟨UInt8.toNat_inj.mp h1,h2⟩
section
variable {prog:Program} {w:World} {A:Around} {E:Value→Shared→Prop} {s:Shared}
theorem call_blt {a b:Array UInt8} {t u:Tok} {Q:Value→Shared→Prop} (h:Q (.bool (bltB a.toList b.toList)) s) :
  wpAny (model prog w) A (call (.builtin "bytes.__lt__") [.bytes a t,.bytes b u]) Q E s :=
 call_gives slot_lt (typeIs_bytes s a t) entry_lt (args_lt _ _) (gives_lt a b t u) h
theorem oneLt_bytes {a b:Array UInt8} {t u:Tok} {Q:Bool→Shared→Prop} (h:Q (bltB a.toList b.toList) s):wpAny (model prog w) A (oneLt' true (.bytes a t) (.bytes b u)) Q E s:=by
 rw [oneLt'_eq]
 simp only [if_true]
 refine wpAny_bind (wpAny_cRoomFor_byValue rfl ?_)
 refine wpAny_bind (wpAny_callSpecialIfBound?_slot (typeIs_bytes s a t) slot_lt (call_blt ?_))
 exact wpAny_truthy_bool h
end
theorem byteKind_oneLt:byteKind.OneLt:=by
 intro prog w A E s x y a b Q ha hb h
 cases x <;> simp only [byteKind,reduceCtorEq,Option.some.injEq] at ha
 cases y <;> simp only [byteKind,reduceCtorEq,Option.some.injEq] at hb
 cases ha;cases hb
 exact oneLt_bytes (by rw [blt_nat];exact h)
theorem keyKind_three (b1 b2 b3:Array UInt8) (t1 t2 t3:Tok):keyKind' [Value.bytes b1 t1,.bytes b2 t2,.bytes b3 t3].toArray=pure oneType':=by
 rw [keyKind'_eq,List.mapM_toArray]
 have e1:[Value.bytes b1 t1,.bytes b2 t2,.bytes b3 t3].mapM firstOfTuple'=pure [none,none,none]:=rfl
 rw [e1]
 simp only [map_pure,pure_bind]
 rw [if_neg (by simp),if_neg (by simp)]
 rw [oneTypeOnly'_eq,List.mapM_toArray]
 have e2:[Value.bytes b1 t1,.bytes b2 t2,.bytes b3 t3].mapM typeOf=pure [.type "bytes",.type "bytes",.type "bytes"]:=rfl
 rw [e2]
 simp only [map_pure,pure_bind]
 have h0:(#[Value.type "bytes",.type "bytes",.type "bytes"])[0]?=some (Value.type "bytes"):=rfl
 have hall:((#[Value.type "bytes",.type "bytes",.type "bytes"]).all λx=>x == Value.type "bytes")=true:=by decide +kernel
 show (do
  let r ← (match (#[Value.type "bytes",.type "bytes",.type "bytes"])[0]? with
   | some t=>pure (if ((#[Value.type "bytes",.type "bytes",.type "bytes"]).all λx=>x == t)=true then some t else none)
   | none=>pure none:Sem (Option Value))
  pure (if r.isSome=true then oneType' else general'))=pure oneType'
 rw [h0]
 simp only [hall,if_true,pure_bind,Option.isSome_some]
theorem perm_pick {α:Type} {x a b c:α} {l:List α} (h:(x :: l).Perm [a,b,c]):(x=a∧l.Perm [b,c])∨(x=b∧l.Perm [a,c])∨(x=c∧l.Perm [a,b]):=by
 rcases List.mem_cons.mp (h.mem_iff.mp (.head _)) with rfl | hx
 ·exact .inl ⟨rfl,(List.perm_cons _).mp h⟩
 ·rcases List.mem_cons.mp hx with rfl | hx
  ·exact .inr (.inl ⟨rfl,(List.perm_cons _).mp (h.trans (List.Perm.swap _ _ _))⟩)
  ·obtain rfl:=List.mem_singleton.mp hx
   exact .inr (.inr ⟨rfl,(List.perm_cons _).mp (h.trans ((List.Perm.swap _ _ _).cons _ |>.trans (List.Perm.swap _ _ _)))⟩)
theorem perm_two {α:Type} {a b:α} {l:List α} (h:l.Perm [a,b]):l = [a,b]∨l = [b,a]:=by
 cases l with
 | nil=>exact nomatch h.length_eq
 | cons x l =>
  rcases List.mem_cons.mp (h.mem_iff.mp (.head _)) with rfl | hx
  ·exact .inl (congrArg _ (List.perm_singleton.mp ((List.perm_cons _).mp h)))
  ·obtain rfl:=List.mem_singleton.mp hx
   exact .inr (congrArg _ (List.perm_singleton.mp ((List.perm_cons _).mp (h.trans (List.Perm.swap _ _ _)))))
theorem three_sorted {α:Type} {key:α→List Nat} {p1 p2 p3:α} {l:List α} (k1:key p1 = [107]) (k2:key p2 = [107,0]) (k3:key p3 = []) (h:l.Perm [p1,p2,p3]) (hs:∀ (i j:Nat) (x y:α),i ≤ j→l[i]?=some x→l[j]?=some y→decide (key y < key x)=false):l = [p3,p1,p2]:=by
 have no:∀ (i j:Nat) (x y:α),i ≤ j→l[i]?=some x→l[j]?=some y→decide (key y < key x)=true→False:=λi j x y a b c d=>by rw [hs i j x y a b c] at d;cases d
 cases l with
 | nil=>exact nomatch h.length_eq
 | cons x l =>
  rcases perm_pick h with ⟨rfl,q⟩ | ⟨rfl,q⟩ | ⟨rfl,q⟩
  ·rcases perm_two q with rfl | rfl
   ·exact (no 0 2 _ _ (by decide) rfl rfl (by rw [k1,k3];rfl)).elim
   ·exact (no 0 1 _ _ (by decide) rfl rfl (by rw [k1,k3];rfl)).elim
  ·rcases perm_two q with rfl | rfl
   ·exact (no 0 2 _ _ (by decide) rfl rfl (by rw [k2,k3];rfl)).elim
   ·exact (no 0 1 _ _ (by decide) rfl rfl (by rw [k2,k3];rfl)).elim
  ·rcases perm_two q with rfl | rfl
   ·rfl
   ·exact (no 1 2 _ _ (by decide) rfl rfl (by rw [k1,k2];rfl)).elim
section
variable {prog:Program} {w:World} {K:Frag} {p:Program} {loose:List Str} {mg mb:Str→Option Value} {A A₀:Around} {base h₀:Heap} {outer:List Env} {env:Env} {L:Addr} {d:Nat} {nm:Nat→Str} {ca:CA} {T:Tb}
theorem sortF_some {u:V} {H:Hp} {q:V × Hp} (h:sortF u H=some q):∃ i,And4 (u = .ref i) (H[i]?=some (.list theKeys)) (q.1 = .ref H.length) (q.2=H ++ [.list keysSorted]):=by
 induction u <;> first | exact nomatch (show Option.none=some q from h) | skip
 rename_i i
 have h:(match H[i]? with | some (.list l)=>if l=theKeys then some (V.ref H.length,H ++ [O.list keysSorted]) else Option.none | _=>Option.none)=some q:=h
 cases hi:H[i]? with
 | none=>rw [hi] at h;cases h
 | some o =>
  rw [hi] at h
  induction o <;> first | exact nomatch (show Option.none=some q from h) | skip
  rename_i l
  by_cases c:l=theKeys
  ·subst c
   cases (if_pos rfl).symm.trans h
   exact ⟨i,rfl,hi,rfl,rfl⟩
  ·exact nomatch (if_neg c).symm.trans h
theorem three_vals {φ:List Addr} {vs:List Value} (h:VRs φ theKeys vs):Ex3 λt1 t2 t3=>vs = [.bytes [107].toArray t1,.bytes [107,0].toArray t2,.bytes [].toArray t3]:=by
 have hl:=h.length
 cases vs with
 | nil=>exact nomatch hl
 | cons u1 vs =>
  cases vs with
  | nil=>exact nomatch hl
  | cons u2 vs =>
   cases vs with
   | nil=>exact nomatch hl
   | cons u3 vs =>
    cases vs with
    | cons=>exact nomatch hl
    | nil =>
     obtain ⟨⟨t1,rfl⟩,⟨t2,rfl⟩,⟨t3,rfl⟩,_⟩:=h
     exact ⟨t1,t2,t3,rfl⟩
theorem h_sorted (u:V) (H:Hp) (r:V) (H':Hp) (h:sortF u H=some (r,H')) (s:Shared) (m:Str→Option Value) (R:List RO) (X:List (Addr × Obj)) (a:Value) (Q:Value→Shared→Prop) (E:Value→Shared→Prop)
  (hR:Rep w.params nm ca h₀ L X m s.heap R H) (ha:VR (ads R) u a)
  (k:∀ h' tk R' y,Rep w.params nm ca h₀ L X m h' R' H'→ads R <+: ads R'→VR (ads R') r y→Q y { s with heap:=h',toks:=tk }):wpAny (model prog w) A (call (.builtin "sorted") [a]) Q E s:=by
 obtain ⟨i,rfl,hl,rfl,rfl⟩:=sortF_some h
 obtain ⟨x,vs,n,rfl,e1,hvs,L1⟩:=hR.getList hl ha
 obtain ⟨t1,t2,t3,rfl⟩:=three_vals hvs
 refine PyProof.Rows.sortedK byteKind_oneLt L1 ?_ (λv₁ v₂ rest e=>?_) (by simp) λst' hp hs=>?_
 ·intro q hq
  rw [pairsOf_toList] at hq
  simp at hq
  rcases hq with rfl | rfl | rfl <;> exact ⟨_,rfl⟩
 ·rw [← e];exact keyKind_three _ _ _ _ _ _
 ·generalize hxs:arrOf st'=xs at hp hs ⊢
  have hl3:xs.toList.Perm [(Value.bytes [107].toArray t1,Value.bytes [107].toArray t1),(.bytes [107,0].toArray t2,.bytes [107,0].toArray t2),(.bytes [].toArray t3,.bytes [].toArray t3)]:=by
   have:=Array.perm_iff_toList_perm.mp hp
   rw [pairsOf_toList] at this
   exact this
  have res:xs.toList = [(.bytes [].toArray t3,.bytes [].toArray t3),(Value.bytes [107].toArray t1,Value.bytes [107].toArray t1),(.bytes [107,0].toArray t2,.bytes [107,0].toArray t2)] :=
   three_sorted (key:=λp=>(byteKind.keyOf p.1).getD byteKind.dflt) rfl rfl rfl hl3 λi j x y h1 hx hy=>by
    have hj:j < 3:=by have:=(List.getElem?_eq_some_iff.mp hy).1;rw [hl3.length_eq] at this;exact this
    have:=hs i j h1 (by rw [pairsOf_size];exact hj)
    unfold KK at this
    rw [← Array.getElem?_toList,← Array.getElem?_toList,hx,hy] at this
    exact this
  have out:(xs.map (·.2)) = [Value.bytes [].toArray t3,.bytes [107].toArray t1,.bytes [107,0].toArray t2].toArray:=by
   apply Array.toList_inj.mp
   rw [Array.toList_map,res]
   rfl
  obtain ⟨e,he⟩:=sortedAll_at s.heap [Value.bytes [107].toArray t1,.bytes [107,0].toArray t2,.bytes [].toArray t3] (xs.map (·.2))
  have F':=hR.F.kept (h':=sortedAll s.heap [Value.bytes [107].toArray t1,.bytes [107,0].toArray t2,.bytes [].toArray t3] (xs.map (·.2))) λ_ _=>sortedAll_old
  have N':=hR.N.kept_cons hR.F (λ_ _=>sortedAll_old) (Nat.le_succ _) he
  rw [out] at N' F' ⊢
  obtain ⟨R',r1,r2,r3⟩:=rep_newList (vs:=keysSorted) hR F' N' (λq hq=>Nat.lt_succ_of_lt (Heap.lt_size (hR.N q hq).1)) ⟨⟨t3,rfl⟩,⟨t1,rfl⟩,⟨t2,rfl⟩,trivial⟩
  exact k _ s.toks R' _ r1 r2 r3
end
noncomputable def PR (nm:Nat→Str) (φ:List Addr):List Nat→List V→List (Value × Value)→Prop
 | [],[],[]=>True
 | n :: ns,v :: vs,p :: ps=>n < 100∧(∃ t,p.1 = .str (nm n) t)∧VR φ v p.2∧PR nm φ ns vs ps
 | _,_,_=>False
theorem PR.ind {nm:Nat→Str} {φ:List Addr} {p:List Nat→List V→List (Value × Value)→Prop} (h0:p [] [] []) (h1:∀ n ns v vs q ps,n < 100→(∃ t,q.1 = .str (nm n) t)→VR φ v q.2→PR nm φ ns vs ps→p ns vs ps→p (n :: ns) (v :: vs) (q :: ps)) :
  ∀ (ns:List Nat) (vs:List V) (ps:List (Value × Value)),PR nm φ ns vs ps→p ns vs ps:=by
 intro ns
 induction ns with
 | nil=>intro vs ps h;cases vs with
  | nil=>cases ps with
   | nil=>exact h0
   | cons=>exact h.elim
  | cons=>exact h.elim
 | cons n ns ih=>intro vs ps h;cases vs with
  | nil=>exact h.elim
  | cons v vs=>cases ps with
   | nil=>exact h.elim
   | cons q ps=>exact h1 n ns v vs q ps h.1 h.2.1 h.2.2.1 h.2.2.2 (ih vs ps h.2.2.2)
section
variable {nm:Nat→Str} {φ ψ:List Addr} {ns:List Nat} {vs:List V} {ps:List (Value × Value)}
theorem PR.mono (e:φ <+: ψ) (h:PR nm φ ns vs ps):PR nm ψ ns vs ps:=PR.ind (p:=PR nm ψ) trivial (λ_ _ _ _ _ _ a b c _ q=>⟨a,b,c.mono e,q⟩) ns vs ps h
end
noncomputable def kvOf (nm:Nat→Str):List Nat→List (Value × Value)→List (Str × Value)
 | n :: ns,p :: ps=>(nm n,p.2) :: kvOf nm ns ps
 | _,_=>[]
theorem PR.carries {prog:Program} {w:World} {nm:Nat→Str} {φ:List Addr} {ns:List Nat} {vs:List V} {ps:List (Value × Value)} (h:PR nm φ ns vs ps):Carries (strKind prog w) ps (kvOf nm ns ps) :=
 PR.ind (p:=λns _ ps=>Carries (strKind prog w) ps (kvOf nm ns ps)) trivial (λn ns v vs q ps _ ht _ _ ih=>by
  obtain ⟨a,b⟩:=q
  obtain ⟨t,ht⟩:=ht
  obtain rfl:a=_:=ht
  exact ⟨strKind_is _ _ _ _,rfl,ih⟩) ns vs ps h
theorem stored_new {K:Type} [DecidableEq K] {l:List (K × Value)} {k:K} {v:Value} (h:k ∉ l.map (·.1)):stored l k v=l ++ [(k,v)]:=by
 unfold stored
 rw [if_neg]
 simp only [List.any_eq_true,not_exists]
 rintro x ⟨hx,e⟩
 exact h (List.mem_map.mpr ⟨x,hx,of_decide_eq_true e⟩)
theorem merged_new {K:Type} [DecidableEq K]:∀ (more acc:List (K × Value)),((acc ++ more).map (·.1)).Nodup→merged acc more=acc ++ more
 | [],acc,_=>by simp [merged]
 | (k,v) :: more,acc,h=>by
  have hk:k ∉ acc.map (·.1):=by
   rw [List.map_append,List.nodup_append] at h
   exact λq=>h.2.2 k q k (by exact .head _) rfl
  show merged (stored acc k v) more=_
  rw [stored_new hk]
  rw [merged_new more (acc ++ [(k,v)]) (by simpa using h)]
  simp
theorem kvOf_keys {nm:Nat→Str} (hn:NmOk nm) {φ:List Addr} {ns:List Nat} {vs:List V} {ps:List (Value × Value)} (h:PR nm φ ns vs ps):ns.Nodup→((kvOf nm ns ps).map (·.1)).Nodup∧∀ x ∈ (kvOf nm ns ps).map (·.1),∃ n ∈ ns,n < 100∧x=nm n :=
 PR.ind (p:=λns _ ps=>ns.Nodup→((kvOf nm ns ps).map (·.1)).Nodup∧∀ x ∈ (kvOf nm ns ps).map (·.1),∃ n ∈ ns,n < 100∧x=nm n) (λ_=>⟨List.nodup_nil,λ_ h=>nomatch h⟩) (λn ns v vs q ps hb _ _ _ ih nd=>by
  obtain ⟨nd1,nd2⟩:=List.nodup_cons.mp nd
  obtain ⟨h1,h2⟩:=ih nd2
  refine ⟨List.nodup_cons.mpr ⟨λq=>?_,h1⟩,λx hx=>?_⟩
  ·obtain ⟨j,hj,hb',e⟩:=h2 _ q
   exact nd1 (hn n j hb hb' e ▸ hj)
  ·rcases List.mem_cons.mp hx with rfl | hx
   ·exact ⟨n,.head _,hb,rfl⟩
   ·obtain ⟨j,hj,q⟩:=h2 x hx
    exact ⟨j,.tail _ hj,q⟩) ns vs ps h
theorem fr_of {prog:Program} {w:World} {nm:Nat→Str} {φ:List Addr} {ns:List Nat} {vs:List V} {ps:List (Value × Value)} (h:PR nm φ ns vs ps):∀ {es:List DictEntry},Pairs (strKind prog w) es (kvOf nm ns ps)→(∀ e ∈ es,∃ k,(strKind prog w).is k e.key=true∧e.hash=(strKind prog w).hash k)→FR w.params nm φ (ns.zip vs) es :=
 PR.ind (p:=λns vs ps=>∀ {es:List DictEntry},Pairs (strKind prog w) es (kvOf nm ns ps)→(∀ e ∈ es,∃ k,(strKind prog w).is k e.key=true∧e.hash=(strKind prog w).hash k)→FR w.params nm φ (ns.zip vs) es)
  (λq _=>by cases q;trivial) (λn ns v vs p ps hb ht hv hr ih {es} q hk=>by
   cases q with
   | cons h1 h2 t =>
    obtain ⟨k,a,b⟩:=hk _ (.head _)
    obtain rfl:=(strKind prog w).inj _ _ _ a h1
    exact ⟨hb,Value.isStrOf_shape h1,b,h2 ▸ hv,ih t λe he=>hk e (.tail _ he)⟩) ns vs ps h
noncomputable def PairsAt (prog:Program) (w:World) (nm:Nat→Str) (ca:CA) (A:Around) (h₀:Heap) (L:Addr) (env:Env) (T:Tb) (ks:List Nat) (r:En→Hp→Option (List V × Hp)) (t:List (Sem Value × Sem Value)):Prop :=
 ∀ (e:En) (H:Hp) (v:List V) (H':Hp),r e H=some (v,H')→∀ (s:Shared) (m:Str→Option Value) (R:List RO) (X:List (Addr × Obj)) (Q:List (Value × Value)→Shared→Prop) (E:Value→Shared→Prop),
  Rep w.params nm ca h₀ L X m s.heap R H→EnvN T env L X m (ads R) e →
  (∀ h' tk R' u,Rep w.params nm ca h₀ L X m h' R' H'→ads R <+: ads R'→PR nm (ads R') ks v u→Q u { s with heap:=h',toks:=tk }) →
  wpAny (model prog w) A (evalPairs t) Q E s
section
variable {prog:Program} {w:World} {K:Frag} {p:Program} {loose:List Str} {mg mb:Str→Option Value} {A A₀:Around} {base h₀:Heap} {outer:List Env} {env:Env} {L:Addr} {d:Nat} {nm:Nat→Str} {ca:CA} {T:Tb}
noncomputable def pairsT (env:Env) (pos:Pos):List (Str × Nat × Pos)→List PySem.Expr→List (Sem Value × Sem Value)
 | (k,k',kp) :: ks,x :: xs=>(eval (.Constant (.str k) k' kp) env,do let x ← eval x env;standAt pos;pure x) :: pairsT env pos ks xs
 | _,_=>[]
theorem pairsT_shape {env:Env} {pos:Pos}:∀ (ks:List (Str × Nat × Pos)) (xs:List PySem.Expr),
  (evalEachOpt (ks.map λk=>some (.Constant (.str k.1) k.2.1 k.2.2)) env).zip ((evalEach xs env).map λv=>do let x ← v;standAt pos;pure x)=(pairsT env pos ks xs).map λp=>(some p.1,p.2)
 | [],[]=>rfl
 | [],_ :: _=>rfl
 | _ :: _,[]=>rfl
 | k :: ks,x :: xs=>by
  have ih:=pairsT_shape (env:=env) (pos:=pos) ks xs
  exact congrArg (List.cons (some (eval (.Constant (.str k.1) k.2.1 k.2.2) env),do let x ← eval x env;standAt pos;pure x)) ih
theorem pairsT_len {env:Env} {pos:Pos}:∀ (ks:List (Str × Nat × Pos)) (xs:List PySem.Expr),(pairsT env pos ks xs).length ≤ ks.length
 | [],[]=>Nat.le_refl _
 | [],_ :: _=>Nat.le_refl _
 | _ :: _,[]=>Nat.zero_le _
 | k :: ks,x :: xs=>Nat.succ_le_succ (pairsT_len ks xs)
theorem sp_nil {pos:Pos}:PairsAt prog w nm ca A h₀ L env T [] (λ_ H=>some ([],H)) (pairsT env pos [] []):=by
 intro e H v H' hv s m R X Q E hR hE k
 cases hv
 exact evalPairs_nil (k s.heap s.toks R [] hR (List.prefix_refl _) trivial)
theorem sp_cons {n:Nat} {ks:List Nat} {k':Nat} {kp:Pos} {kr:List (Str × Nat × Pos)} (hN:n < 100) {ra:En→Hp→Option (V × Hp)} {rs:En→Hp→Option (List V × Hp)} {x:PySem.Expr} {l:List PySem.Expr} {pos:Pos}
  (ha:SoundAt prog w nm ca A h₀ L env T ra (eval x env)) (hs:PairsAt prog w nm ca A h₀ L env T ks rs (pairsT env pos kr l)) :
  PairsAt prog w nm ca A h₀ L env T (n :: ks) (λe H=>match ra e H with
   | some (v,H)=>match rs e H with
    | some (vs,H)=>some (v :: vs,H)
    | _=>Option.none
   | _=>Option.none) (pairsT env pos ((nm n,k',kp) :: kr) (x :: l)):=by
 intro e H v H' hv s m R X Q E hR hE k
 dsimp only at hv
 obtain ⟨u,H1,h1,hv⟩:=invV hv
 obtain ⟨us,H2,h2,hv⟩:=invVs hv
 obtain ⟨rfl,rfl⟩:u :: us=v∧H2=H':=some2 hv
 refine evalPairs_cons ?_
 rw [eval_Constant]
 show wpAny _ _ (mkText (nm n)) _ _ _
 refine wpAny_mkText ?_
 refine wpAny_bind ?_
 refine ha e H u H1 h1 _ m R X _ _ hR hE λh' tk R' a hR' e1 va=>wpAny_bind (wpAny_standAt (wpAny_pure ?_))
 refine hs e H1 us H2 h2 _ m R' X _ _ hR' (hE.mono e1) λh'' tk' R'' b hR'' e2 vb=>?_
 exact k h'' tk' R'' _ hR'' (e1.trans e2) ⟨hN,⟨_,rfl⟩,va.mono e2,vb⟩
theorem EnvN.more {T:Tb} {env:Env} {L:Addr} {X:List (Addr × Obj)} {φ:List Addr} {m:Str→Option Value} {e:En} (h:EnvN T env L X m φ e) (q:Addr × Obj):EnvN T env L (q :: X) m φ e:=by
 obtain ⟨m₂,a,b⟩:=h
 refine ⟨m₂,?_,b⟩
 rcases a with a | ⟨o,ho,hn⟩
 ·exact .inl a
 ·exact .inr ⟨o,.tail _ ho,hn⟩
theorem s_dict (hn:NmOk nm) {ks:List Nat} (hnd:ks.Nodup) {keys:List (Str × Nat × Pos)} {l:List PySem.Expr} {rs:En→Hp→Option (List V × Hp)} {pos:Pos} (h0:pairsT env pos keys l ≠ []) (hlen:keys.length ≤ 15)
  (hs:PairsAt prog w nm ca A h₀ L env T ks rs (pairsT env pos keys l)) :
  SoundAt prog w nm ca A h₀ L env T (λe H=>match rs e H with
   | some (vs,H)=>if ks.length=vs.length then some (.ref H.length,H ++ [.dict (ks.zip vs)]) else Option.none
   | _=>Option.none) (eval (.Dict (keys.map λk=>some (.Constant (.str k.1) k.2.1 k.2.2)) l pos) env):=by
 intro e H v H' hv s m R X Q E hR hE k
 dsimp only at hv
 obtain ⟨us,H1,h1,hv⟩:=invVs hv
 split at hv
 ·rename_i hl
  obtain ⟨rfl,rfl⟩:V.ref H1.length=v∧H1 ++ [.dict (ks.zip us)]=H':=some2 hv
  refine wpAny_Dict_pairs (knd:=strKind prog w) (pairsT_shape keys l) h0 (Nat.le_trans (pairsT_len _ _) hlen) ?_
  have hsb:Heap.SameBut s.heap.objs.size (s.heap.push { cls:=.type "dict",data:=.dict #[] }) (s.heap.push { cls:=.type "dict",data:=.dict #[] }):=Heap.SameBut.refl _ _
  have F1:=Fr.filled hR.F hsb
  have N1:=News.filled hR.F hR.N hsb (o:=dictOf [] 0) (Heap.get?_push_size _ rfl)
  have hlt:∀ q ∈ led R ++ X,q.1 ≠ s.heap.objs.size:=λq hq=>Nat.ne_of_lt (Heap.lt_size (hR.N q hq).1)
  have perm:∀ (R:List RO),(led R ++ (s.heap.objs.size,dictOf [] 0) :: X).Perm ((s.heap.objs.size,dictOf [] 0) :: (led R ++ X)):=λR=>List.perm_middle
  have hR1:Rep w.params nm ca h₀ L ((s.heap.objs.size,dictOf [] 0) :: X) m (s.heap.push { cls:=.type "dict",data:=.dict #[] }) R H:=by
   refine ⟨F1,λq hq=>N1 q ((perm R).mem_iff.mp hq),?_,hR.hr⟩
   rw [((perm R).map Prod.fst).nodup_iff]
   show (s.heap.objs.size :: (led R ++ X).map Prod.fst).Nodup
   refine List.nodup_cons.mpr ⟨λq=>?_,hR.nd⟩
   obtain ⟨y,hy,e⟩:=List.mem_map.mp q
   exact hlt y hy e
  refine hs e H us H1 h1 _ m R _ _ _ hR1 (hE.more _) λh' tk R' ps hR' e1 vps=>⟨_,vps.carries,?_,λh2 hd hsb2=>?_⟩
  ·exact ⟨_,#[],0,(hR'.N _ (List.mem_append_right _ (.head _))).1,⟨rfl,rfl,rfl⟩,rfl,λ_ he=>by simp at he,Pairs.nil,List.nodup_nil⟩
  ·obtain ⟨hnd',_⟩:=kvOf_keys hn vps hnd
   rw [merged_new _ _ (by exact hnd'),List.nil_append] at hd
   obtain ⟨o,es,ep,ho,hx,hdat,hko,hpr,_⟩:=hd
   have ho2:o=dictOf es.toList ep:=by
    obtain ⟨c,dd,da,sl⟩:=o
    obtain ⟨rfl,rfl,rfl⟩:=hx
    cases hdat
    rfl
   subst ho2
   have hN':=hR'.N
   have N2:News h₀ L h2 ((s.heap.objs.size,dictOf es.toList ep) :: (led R' ++ X)):=by
    refine News.setHead (o:=dictOf [] 0) (λq hq=>hN' q ((perm R').mem_iff.mpr hq)) ?_ hsb2 ho
    have nd:=hR'.nd
    rw [((perm R').map Prod.fst).nodup_iff] at nd
    intro q hq e
    exact (List.nodup_cons.mp nd).1 (by show s.heap.objs.size ∈ _;rw [← e];exact List.mem_map_of_mem (f:=Prod.fst) hq)
   have hd0:=hN' (s.heap.objs.size,dictOf [] 0) (List.mem_append_right _ (.head _))
   have F2:=hR'.F.change hsb2 hd0.2.1 hd0.2.2
   refine k h2 _ (R' ++ [.one s.heap.objs.size (dictOf es.toList ep)]) (.ref s.heap.objs.size) ?_ (e1.trans (by rw [ads_append];exact List.prefix_append ..)) ⟨_,?_,rfl⟩
   ·have e2:led (R' ++ [.one s.heap.objs.size (dictOf es.toList ep)]) ++ X=led R' ++ (s.heap.objs.size,dictOf es.toList ep) :: X:=by rw [led_append];simp [led,RO.seg]
    refine ⟨F2,?_,?_,hR'.hr.push ⟨_,es.toList,ep,rfl,?_⟩⟩
    ·rw [e2];exact λq hq=>N2 q (List.perm_middle.mem_iff.mp hq)
    ·rw [e2]
     have nd:=hR'.nd
     simpa using nd
    ·exact fr_of (vps.mono (List.prefix_append ..)) hpr λe he=>hko e (by simpa using he)
   ·rw [ads_append,List.getElem?_append_right (by simp [ads,hR'.hr.len])];simp [ads,RO.at,hR'.hr.len]
 ·cases hv
end
noncomputable def Tb.Ok (T:Tb):Prop:=∀ x y k,T.names.lookup (T.sn x)=some k→T.sn x=T.sn y→x=y
theorem look_put {e:En} {x y:Nat} {v u:V} (h:look (put e x v) y=some u):(y=x∧u=v)∨(y ≠ x∧look e y=some u):=by
 unfold look put at h
 rw [List.getElem?_set] at h
 by_cases q:x=y
 ·subst q
  rw [if_pos rfl] at h
  split at h
  ·exact .inl ⟨rfl,(Option.some.inj h).symm⟩
  ·cases h
 ·rw [if_neg q] at h
  exact .inr ⟨λz=>q z.symm,h⟩
theorem EnvR.put {T:Tb} (hT:T.Ok) {cells:List (Str × Addr)} {φ:List Addr} {m:Str→Option Value} {e:En} (h:EnvR T cells φ m e) {x:Nat} {v:V} {u:Value} (hl:T.names.lookup (T.sn x)=some .local) (hv:VR φ v u) :
  EnvR T cells φ (λz=>if z=T.sn x then some u else m z) (put e x v):=by
 intro y w hy
 rcases look_put hy with ⟨rfl,rfl⟩ | ⟨hne,hy⟩
 ·exact ⟨λ_=>⟨u,if_pos rfl,hv⟩,λk=>by rw [hl] at k;cases k⟩
 ·refine ⟨λk=>?_,(h y w hy).2⟩
  obtain ⟨u',h1,h2⟩:=(h y w hy).1 k
  have:T.sn y ≠ T.sn x:=λq=>hne (hT y x _ k q)
  exact ⟨u',by show (if _ then _ else _)=_;rw [if_neg this];exact h1,h2⟩
noncomputable def MadeM (h₂ h':Heap) (e:Addr) (cls:Value):Prop:=∃ vs,Heap.MadeExcOf h₂ h' e cls vs
section
variable (prog:Program) (w:World) (nm:Nat→Str) (ca:CA) (A:Around) (h₀:Heap) (L:Addr) (env:Env) (T:Tb)
noncomputable def Kont (res:SRes) (s:Shared) (R:List RO) (X:List (Addr × Obj)) (Q:Flow→Shared→Prop) (E:Value→Shared→Prop):Prop :=
 match res with
 | .nx e' H'=>∀ h' tk m' R',Rep w.params nm ca h₀ L X m' h' R' H'→ads R <+: ads R'→EnvR T env.cells (ads R') m' e'→Q .next { s with heap:=h',toks:=tk }
 | .brk e' H'=>∀ h' tk m' R',Rep w.params nm ca h₀ L X m' h' R' H'→ads R <+: ads R'→EnvR T env.cells (ads R') m' e'→Q .brk { s with heap:=h',toks:=tk }
 | .ret v H'=>∀ h' tk m' R' u,Rep w.params nm ca h₀ L X m' h' R' H'→ads R <+: ads R'→VR (ads R') v u→Q (.ret u) { s with heap:=h',toks:=tk }
 | .exc c H'=>∀ h' tk m' R' h₂ e,Rep w.params nm ca h₀ L X m' h₂ R' H'→ads R <+: ads R'→MadeM h₂ h' e (.ref (ca c))→E (.ref e) { s with heap:=h',toks:=tk }
 | .bad=>False
noncomputable def StmtAt (r:En→Hp→SRes) (t:Sem Flow):Prop :=
 ∀ (e:En) (H:Hp) (s:Shared) (m:Str→Option Value) (R:List RO) (X:List (Addr × Obj)) (Q:Flow→Shared→Prop) (E:Value→Shared→Prop),
  Rep w.params nm ca h₀ L X m s.heap R H→EnvR T env.cells (ads R) m e→Kont w nm ca h₀ L env T (r e H) s R X Q E→wpAny (model prog w) A t Q E s
noncomputable def TestAt (r:En→Hp→Option (Bool × Hp)) (t:Sem Bool):Prop :=
 ∀ (e:En) (H:Hp) (b:Bool) (H':Hp),r e H=some (b,H')→∀ (s:Shared) (m:Str→Option Value) (R:List RO) (X:List (Addr × Obj)) (Q:Bool→Shared→Prop) (E:Value→Shared→Prop),
  Rep w.params nm ca h₀ L X m s.heap R H→EnvN T env L X m (ads R) e →
  (∀ h' tk R',Rep w.params nm ca h₀ L X m h' R' H'→ads R <+: ads R'→Q b { s with heap:=h',toks:=tk }) →
  wpAny (model prog w) A t Q E s
end
section
variable {prog:Program} {w:World} {K:Frag} {p:Program} {loose:List Str} {mg mb:Str→Option Value} {A A₀:Around} {base h₀:Heap} {outer:List Env} {env:Env} {L:Addr} {d:Nat} {nm:Nat→Str} {ca:CA} {T:Tb}
theorem EnvR.toN {X:List (Addr × Obj)} {m:Str→Option Value} {φ:List Addr} {e:En} (h:EnvR T env.cells φ m e) (hl:env.locals=L):EnvN T env L X m φ e:=⟨m,.inl ⟨hl,rfl⟩,h⟩
theorem invK {o:Option (V × Hp)} {f:V→Hp→SRes} {s:Shared} {R:List RO} {X:List (Addr × Obj)} {Q:Flow→Shared→Prop} {E:Value→Shared→Prop} (k:Kont w nm ca h₀ L env T (match o with | some (u,h)=>f u h | _=>.bad) s R X Q E):Ex2 λu H=>o=some (u,H)∧Kont w nm ca h₀ L env T (f u H) s R X Q E:=by
 cases o with
 | none=>exact k.elim
 | some p=>exact ⟨p.1,p.2,rfl,k⟩
theorem invKs {o:Option (List V × Hp)} {f:List V→Hp→SRes} {s:Shared} {R:List RO} {X:List (Addr × Obj)} {Q:Flow→Shared→Prop} {E:Value→Shared→Prop} (k:Kont w nm ca h₀ L env T (match o with | some (u,h)=>f u h | _=>.bad) s R X Q E):Ex2 λu H=>o=some (u,H)∧Kont w nm ca h₀ L env T (f u H) s R X Q E:=by
 cases o with
 | none=>exact k.elim
 | some p=>exact ⟨p.1,p.2,rfl,k⟩
theorem invKh {o:Option (Hp)} {f:Hp→SRes} {s:Shared} {R:List RO} {X:List (Addr × Obj)} {Q:Flow→Shared→Prop} {E:Value→Shared→Prop} (k:Kont w nm ca h₀ L env T (match o with | some u=>f u | _=>.bad) s R X Q E):∃ u,o=some u∧Kont w nm ca h₀ L env T (f u) s R X Q E:=by
 cases o with
 | none=>exact k.elim
 | some p=>exact ⟨p,rfl,k⟩
theorem invKn {o:Option (Nat)} {f:Nat→SRes} {s:Shared} {R:List RO} {X:List (Addr × Obj)} {Q:Flow→Shared→Prop} {E:Value→Shared→Prop} (k:Kont w nm ca h₀ L env T (match o with | some u=>f u | _=>.bad) s R X Q E):∃ u,o=some u∧Kont w nm ca h₀ L env T (f u) s R X Q E:=by
 cases o with
 | none=>exact k.elim
 | some p=>exact ⟨p,rfl,k⟩
theorem invKi {o:Option V} {f:Int→SRes} {s:Shared} {R:List RO} {X:List (Addr × Obj)} {Q:Flow→Shared→Prop} {E:Value→Shared→Prop} (k:Kont w nm ca h₀ L env T (match o with | some (.int i)=>f i | _=>.bad) s R X Q E):∃ i,o=some (.int i)∧Kont w nm ca h₀ L env T (f i) s R X Q E:=by
 cases o with
 | none=>exact k.elim
 | some p=>cases p <;> first | exact (show False from k).elim | exact ⟨_,rfl,k⟩
theorem invKI {o:Option (V × Hp)} {f:Int→Hp→SRes} {s:Shared} {R:List RO} {X:List (Addr × Obj)} {Q:Flow→Shared→Prop} {E:Value→Shared→Prop} (k:Kont w nm ca h₀ L env T (match o with | some (.int i,h)=>f i h | _=>.bad) s R X Q E):Ex2 λi H=>o=some (.int i,H)∧Kont w nm ca h₀ L env T (f i H) s R X Q E:=by
 cases o with
 | none=>exact k.elim
 | some p=>obtain ⟨u,H⟩:=p;induction u <;> first | exact (show False from k).elim | exact ⟨_,H,rfl,k⟩
theorem Kont.later {res:SRes} {s:Shared} {R R':List RO} {X:List (Addr × Obj)} {Q:Flow→Shared→Prop} {E:Value→Shared→Prop} (h:Kont w nm ca h₀ L env T res s R X Q E) (e:ads R <+: ads R') {h':Heap} {tk:Nat} :
  Kont w nm ca h₀ L env T res { s with heap:=h',toks:=tk } R' X Q E:=by
 cases res with
 | nx e' H'=>exact λh2 tk2 m2 R2 a b c=>h h2 tk2 m2 R2 a (e.trans b) c
 | brk e' H'=>exact λh2 tk2 m2 R2 a b c=>h h2 tk2 m2 R2 a (e.trans b) c
 | ret v H'=>exact λh2 tk2 m2 R2 u a b c=>h h2 tk2 m2 R2 u a (e.trans b) c
 | exc c H'=>exact λh2 tk2 m2 R2 h3 x a b c=>h h2 tk2 m2 R2 h3 x a (e.trans b) c
 | bad=>exact h
theorem store_local (C:Cx0 K p loose mg mb A h₀ env L) (hl:env.locals=L) (hT:T.names=env.scope.names) (hOk:T.Ok) {x:Nat} {id:Str} (h:T.loc x id=true) {e:En} {H:Hp} {v:V} {u:Value} {s:Shared} {m:Str→Option Value} {R:List RO} {X:List (Addr × Obj)} {Q:Unit→Shared→Prop} {E:Value→Shared→Prop}
  (hR:Rep w.params nm ca h₀ L X m s.heap R H) (hE:EnvR T env.cells (ads R) m e) (hv:VR (ads R) v u)
  (k:∀ h' tk m',Rep w.params nm ca h₀ L X m' h' R H→EnvR T env.cells (ads R) m' (put e x v)→Q () { s with heap:=h',toks:=tk }):wpAny (model prog w) A (storeName env id u) Q E s:=by
 obtain ⟨rfl,h2,h3⟩:=loc_of h
 subst hl
 refine wpAny_storeName_local (by unfold Env.kindOf;rw [← hT];exact h2) hR.F.ns (λh' hn hs=>?_) (by rw [C.hk];rfl)
 have hL₀:h₀.get? env.locals=none:=Heap.get?_none_of_le hR.F.above
 refine k h' _ _ ⟨⟨hn,λb o e=>hs.extBut b o (λq=>by rw [q,hL₀] at e;cases e) (hR.F.keep b o e),hR.F.above⟩,λq hq=>⟨hs.extBut _ _ (hR.N q hq).2.1 (hR.N q hq).1,(hR.N q hq).2⟩,hR.nd,hR.hr⟩ (hE.put hOk h2 hv)
noncomputable def noSwap (e:PySem.Expr):Bool:=Nat.blt e.ctorIdx 8 || Nat.blt 10 e.ctorIdx
theorem swaps_no {v:PySem.Expr} (h:noSwap v=true) (t:Option PySem.Expr) (n:Nat) (env:Env):swapsWith v t n env=pure false:=by
 induction v using PySem.Expr.casesOn <;> first | rfl | exact nomatch (show false=true from h)
theorem st_assign (C:Cx0 K p loose mg mb A h₀ env L) (hl:env.locals=L) (hT:T.names=env.scope.names) (hOk:T.Ok) {x:Nat} {id:Str} {pos pos':Pos} {value:PySem.Expr} (h:T.loc x id=true) {ra:En→Hp→Option (V × Hp)} (ha:SoundAt prog w nm ca A h₀ L env T ra (eval value env))
  (hsw:noSwap value=true) :
  StmtAt prog w nm ca A h₀ L env T (λe H=>match ra e H with
   | some (v,H)=>.nx (put e x v) H
   | _=>.bad) (exec (.Assign [.Name id pos'] value pos) env):=by
 intro e H s m R X Q E hR hE k
 dsimp only at k
 obtain ⟨v,H1,h1,k⟩:=invK k
 refine wpAny_Assign_Name (ha e H v H1 h1 s m R X _ _ hR (hE.toN hl) λh' tk R' u hR' e1 vu=>?_) (swaps_no hsw _ _ _)
 exact store_local C hl hT hOk h hR' (hE.mono e1) vu λh2 tk2 m2 hR2 hE2=>k h2 tk2 m2 R' hR2 e1 hE2
theorem st_expr (C:Cx0 K p loose mg mb A h₀ env L) (hl:env.locals=L) {pos:Pos} {value:PySem.Expr} {ra:En→Hp→Option (V × Hp)} (ha:SoundAt prog w nm ca A h₀ L env T ra (eval value env))
  (hsw:noSwap value=true) :
  StmtAt prog w nm ca A h₀ L env T (λe H=>match ra e H with
   | some (.ref _,_)=>.bad
   | some (_,H)=>.nx e H
   | _=>.bad) (exec (.Expr value pos) env):=by
 intro e H s m R X Q E hR hE k
 dsimp only at k
 cases h1:ra e H with
 | none=>rw [h1] at k;exact k.elim
 | some q =>
  obtain ⟨v,H1⟩:=q
  rw [h1] at k
  refine wpAny_Expr (ha e H v H1 h1 s m R X _ _ hR (hE.toN hl) λh' tk R' u hR' e1 vu=>?_) (by unfold interactive;rw [C.hk];simp) (swaps_no hsw _ _ _)
  induction v <;> first | exact k.elim | skip
  all_goals first | (cases vu;exact k h' tk m R' hR' e1 (hE.mono e1)) | (obtain ⟨t,rfl⟩:=vu;exact k h' tk m R' hR' e1 (hE.mono e1))
theorem st_ret (hl:env.locals=L) {pos:Pos} {value:PySem.Expr} {ra:En→Hp→Option (V × Hp)} (ha:SoundAt prog w nm ca A h₀ L env T ra (eval value env)) :
  StmtAt prog w nm ca A h₀ L env T (λe H=>match ra e H with
   | some (v,H)=>.ret v H
   | _=>.bad) (exec (.Return (some value) pos) env):=by
 intro e H s m R X Q E hR hE k
 dsimp only at k
 obtain ⟨v,H1,h1,k⟩:=invK k
 exact wpAny_Return_some (ha e H v H1 h1 s m R X _ _ hR (hE.toN hl) λh' tk R' u hR' e1 vu=>k h' tk m R' u hR' e1 vu)
theorem st_ret0 {pos:Pos}:StmtAt prog w nm ca A h₀ L env T (λe H=>.ret .none H) (exec (.Return none pos) env):=by
 intro e H s m R X Q E hR hE k
 exact wpAny_Return_none (k s.heap s.toks m R .none hR (List.prefix_refl _) rfl)
theorem st_pass {pos:Pos}:StmtAt prog w nm ca A h₀ L env T (λe H=>.nx e H) (exec (.Pass pos) env):=by
 intro e H s m R X Q E hR hE k
 exact wpAny_Pass (k s.heap s.toks m R hR (List.prefix_refl _) hE)
theorem st_brk {pos:Pos}:StmtAt prog w nm ca A h₀ L env T (λe H=>.brk e H) (exec (.Break pos) env):=by
 intro e H s m R X Q E hR hE k
 exact wpAny_Break (k s.heap s.toks m R hR (List.prefix_refl _) hE)
theorem st_bad {t:Sem Flow}:StmtAt prog w nm ca A h₀ L env T (λ_ _=>.bad) t:=λ_ _ _ _ _ _ _ _ _ _ k=>k.elim
theorem ss_end:StmtAt prog w nm ca A h₀ L env T (λe H=>.nx e H) (execs [] env):=by
 intro e H s m R X Q E hR hE k
 exact wpAny_execs_nil (k s.heap s.toks m R hR (List.prefix_refl _) hE)
theorem ss_more {r rs:En→Hp→SRes} {st:Stmt} {rest:List Stmt} (h:StmtAt prog w nm ca A h₀ L env T r (exec st env)) (hs:StmtAt prog w nm ca A h₀ L env T rs (execs rest env)) :
  StmtAt prog w nm ca A h₀ L env T (λe H=>match r e H with
   | .nx e h=>rs e h
   | q=>q) (execs (st :: rest) env):=by
 intro e H s m R X Q E hR hE k
 dsimp only at k
 refine wpAny_execs_cons (h e H s m R X _ E hR hE ?_)
 cases h1:r e H with
 | nx e1 H1 =>
  rw [h1] at k
  intro h' tk m' R' hR' e1 hE'
  exact hs _ _ { s with heap:=h',toks:=tk } m' R' X Q E hR' hE' (k.later e1)
 | brk e1 H1=>rw [h1] at k;exact k
 | ret v H1=>rw [h1] at k;exact k
 | exc c H1=>rw [h1] at k;exact k
 | bad=>rw [h1] at k;exact k
theorem t_plain {x:PySem.Expr} {ra:En→Hp→Option (V × Hp)} (ha:SoundAt prog w nm ca A h₀ L env T ra (eval x env))
  (hx:isTrue x env (eval x env)=(do let v ← eval x env;standAt x.pos;holding [v] (truthy v))) :
  TestAt prog w nm ca A h₀ L env T (λe H=>match ra e H with
   | some (v,h)=>(truth h v).map λb=>(b,h)
   | Option.none=>Option.none) (isTrue x env (eval x env)):=by
 intro e H b H' hv s m R X Q E hR hE k
 dsimp only at hv
 cases h1:ra e H with
 | none=>rw [h1] at hv;cases hv
 | some q =>
  obtain ⟨v,H1⟩:=q
  rw [h1] at hv
  obtain ⟨b',hb,e'⟩:=Option.map_eq_some_iff.mp hv
  obtain ⟨rfl,rfl⟩:b'=b∧H1=H':=by exact Prod.mk.inj e'
  refine isTrue_plain (ha e H v H1 h1 s m R X _ _ hR hE λh' tk R' u hR' e1 vu=>?_) hx
  exact h_truth hb hR' vu λtk2=>k h' tk2 R' hR' e1
theorem t_cmp (hu:A.units < cLine) {op:Cop} {ra rb:En→Hp→Option (V × Hp)} {l r:PySem.Expr} {pos:Pos} {whole:Sem Value} (ha:SoundAt prog w nm ca A h₀ L env T ra (eval l env)) (hb:SoundAt prog w nm ca A h₀ L env T rb (eval r env))
  (hm:behindInMarks (copOf op) r=false) :
  TestAt prog w nm ca A h₀ L env T (λe H=>match ra e H with
   | some (u,H)=>match rb e H with
    | some (v,H)=>(cop op u v H).map λb=>(b,H)
    | _=>Option.none
   | _=>Option.none) (isTrue (.Compare l [copOf op] [r] pos) env whole):=by
 intro e H b H' hv s m R X Q E hR hE k
 dsimp only at hv
 obtain ⟨u,H1,h1,hv⟩:=invV hv
 obtain ⟨v,H2,h2,hv⟩:=invV hv
 obtain ⟨b',hb',e'⟩:=Option.map_eq_some_iff.mp hv
 obtain ⟨rfl,rfl⟩:b'=b∧H2=H':=Prod.mk.inj e'
 refine wpAny_isTrue_Compare1 (ha e H u H1 h1 s m R X _ _ hR hE λh' tk R' a hR' e1 va=>?_) hm
 refine hb e H1 v H2 h2 _ m R' X _ _ hR' (hE.mono e1) λh3 tk3 R3 c hR3 e3 vc=>?_
 refine h_cop hu u v H2 b' hb' _ m R3 X a c _ _ hR3 (va.mono e3) vc λtk4=>?_
 exact wpAny_truthy_bool (k h3 _ R3 hR3 (e1.trans e3))
theorem t_not {ra:En→Hp→Option (Bool × Hp)} {x:PySem.Expr} {pos:Pos} {whole:Sem Value} (ha:TestAt prog w nm ca A h₀ L env T ra (isTrue x env (eval x env))) :
  TestAt prog w nm ca A h₀ L env T (λe H=>(ra e H).map λp=>(!p.1,p.2)) (isTrue (.UnaryOp .Not x pos) env whole):=by
 intro e H b H' hv s m R X Q E hR hE k
 obtain ⟨⟨b',H1⟩,hb,e'⟩:=Option.map_eq_some_iff.mp hv
 obtain ⟨rfl,rfl⟩:(!b')=b∧H1=H':=Prod.mk.inj e'
 exact isTrue_not (ha e H b' H1 hb s m R X _ _ hR hE λh' tk R' hR' e1=>k h' tk R' hR' e1)
theorem t_last {op:PySem.BoolOp} {ra:En→Hp→Option (Bool × Hp)} {x:PySem.Expr} (ha:TestAt prog w nm ca A h₀ L env T ra (isTrue x env (eval x env))) :
  TestAt prog w nm ca A h₀ L env T ra (allTrue op [x] env):=by
 intro e H b H' hv s m R X Q E hR hE k
 show wpAny _ A (do
  match op,← isTrue x env (eval x env) with
  | .And,false=>pure false
  | .Or,true=>pure true
  | _,_=>allTrue op [] env) Q E s
 refine wpAny_bind (ha e H b H' hv s m R X _ _ hR hE λh' tk R' hR' e1=>?_)
 induction op <;> induction b <;> exact wpAny_pure (k h' tk R' hR' e1)
theorem t_more {op:PySem.BoolOp} {ra rb:En→Hp→Option (Bool × Hp)} {x:PySem.Expr} {rest:List PySem.Expr} (ha:TestAt prog w nm ca A h₀ L env T ra (isTrue x env (eval x env))) (hb:TestAt prog w nm ca A h₀ L env T rb (allTrue op rest env)) :
  TestAt prog w nm ca A h₀ L env T (λe H=>match ra e H with
   | some (true,H)=>(match op with | .And=>rb e H | .Or=>some (true,H))
   | some (false,H)=>(match op with | .And=>some (false,H) | .Or=>rb e H)
   | Option.none=>Option.none) (allTrue op (x :: rest) env):=by
 intro e H b H' hv s m R X Q E hR hE k
 dsimp only at hv
 show wpAny _ A (do
  match op,← isTrue x env (eval x env) with
  | .And,false=>pure false
  | .Or,true=>pure true
  | _,_=>allTrue op rest env) Q E s
 cases h1:ra e H with
 | none=>rw [h1] at hv;cases hv
 | some q =>
  obtain ⟨b1,H1⟩:=q
  rw [h1] at hv
  refine wpAny_bind (ha e H b1 H1 h1 s m R X _ _ hR hE λh' tk R' hR' e1=>?_)
  have go:rb e H1=some (b,H')→wpAny (model prog w) A (allTrue op rest env) Q E { s with heap:=h',toks:=tk }:=λq =>
   hb e H1 b H' q _ m R' X _ _ hR' (hE.mono e1) λh2 tk2 R2 hR2 e2=>k h2 tk2 R2 hR2 (e1.trans e2)
  have stay:some (b1,H1)=some (b,H')→wpAny (model prog w) A (pure b1) Q E { s with heap:=h',toks:=tk }:=λq=>by
   cases q;exact wpAny_pure (k h' tk R' hR' e1)
  induction b1 <;> induction op <;> first | exact go hv | exact stay hv
theorem st_ite (hl:env.locals=L) {rt:En→Hp→Option (Bool × Hp)} {ra rb:En→Hp→SRes} {x:PySem.Expr} {a b:List Stmt} {pos:Pos} (ht:TestAt prog w nm ca A h₀ L env T rt (isTrue x env (eval x env)))
  (ha:StmtAt prog w nm ca A h₀ L env T ra (execs a env)) (hb:StmtAt prog w nm ca A h₀ L env T rb (execs b env)) :
  StmtAt prog w nm ca A h₀ L env T (λe H=>match rt e H with
   | some (true,h)=>ra e h
   | some (false,h)=>rb e h
   | Option.none=>.bad) (exec (.If x a b pos) env):=by
 intro e H s m R X Q E hR hE k
 dsimp only at k
 cases h1:rt e H with
 | none=>rw [h1] at k;exact k.elim
 | some q =>
  obtain ⟨c,H1⟩:=q
  rw [h1] at k
  refine wpAny_If (ht e H c H1 h1 s m R X _ _ hR (hE.toN hl) λh' tk R' hR' e1=>?_)
  cases c with
  | true=>rw [if_pos rfl];exact ha e H1 _ m R' X Q E hR' (hE.mono e1) (Kont.later k e1)
  | false=>rw [if_neg Bool.false_ne_true];exact hb e H1 _ m R' X Q E hR' (hE.mono e1) (Kont.later k e1)
end
theorem place_of {k:Int} {n j:Nat} (h:place k n=some j) (h0:0 ≤ k):k=(j:Nat)∧j < n:=by
 unfold place at h
 by_cases q:0 ≤ k∧k < n
 ·rw [if_pos q] at h
  cases h
  exact ⟨(Int.toNat_of_nonneg h0).symm,by lia⟩
 ·rw [if_neg q,if_neg λz=>absurd h0 (Int.not_le.mpr z.1)] at h;cases h
theorem inst_some {α:Type} {H:Hp} {x:Nat} {f:Nat→List (Nat × V)→Option α} {q:α} (h:(match H[x]? with | some (.inst c fs)=>f c fs | _=>Option.none)=some q):Ex2 λc fs=>H[x]?=some (.inst c fs)∧f c fs=some q:=by
 cases hx:H[x]? with
 | none=>rw [hx] at h;cases h
 | some o=>rw [hx] at h;induction o <;> first | exact nomatch (show Option.none=some q from h) | exact ⟨_,_,rfl,h⟩
theorem attrOf_some {fld:Nat→Nat→Bool} {u v:V} {n:Nat} {H:Hp} (h:attrOf fld u n H=some v):Ex3 λi c fs=>And4 (u = .ref i) (H[i]?=some (.inst c fs)) (fld c n=true) (getF n fs=some v):=by
 induction u <;> first | exact nomatch (show Option.none=some v from h) | skip
 obtain ⟨c,fs,hi,h⟩:=inst_some h
 obtain ⟨h1,h2⟩:=iteO h
 exact ⟨_,c,fs,rfl,hi,h1,h2⟩
theorem setAttr_some {fld:Nat→Nat→Bool} {u v:V} {n:Nat} {H H':Hp} (h:setAttr fld u n v H=some H'):Ex3 λi c fs=>And5 (u = .ref i) (H[i]?=some (.inst c fs)) (fld c n=true) (fs.length < 100) (H'=H.set i (.inst c (setF n v fs))):=by
 induction u <;> first | exact nomatch (show Option.none=some H' from h) | skip
 obtain ⟨c,fs,hi,h⟩:=inst_some h
 obtain ⟨h1,h2⟩:=ite_some h
 obtain ⟨h1,h3⟩:=Bool.and_eq_true_iff.mp h1
 exact ⟨_,c,fs,rfl,hi,h1,of_decide_eq_true h3,h2⟩
theorem setIdx_some {u j v:V} {H H':Hp} (h:setIdx u j v H=some H'):Ex3 λr l i=>And6 (u = .ref r) (j = .int (i:Nat)) (H[r]?=some (.list l)) (l.length < capL) (i < l.length) (H'=H.set r (.list (l.set i v))):=by
 induction u <;> first | exact nomatch (show Option.none=some H' from h) | skip
 induction j <;> first | exact nomatch (show Option.none=some H' from h) | skip
 obtain ⟨l,hl,h⟩:=list_some h
 obtain ⟨c,h⟩:=iteO h
 obtain ⟨i,hi,e⟩:=Option.map_eq_some_iff.mp h
 obtain ⟨rfl,h2⟩:=place_of hi c.1
 exact ⟨_,l,i,rfl,rfl,hl,c.2,h2,e.symm⟩
theorem delIdx_some {u j:V} {H H':Hp} (h:delIdx u j H=some H'):Ex3 λr l i=>And6 (u = .ref r) (j = .int (i:Nat)) (H[r]?=some (.list l)) (l.length < capL) (i < l.length) (H'=H.set r (.list (l.eraseIdx i))):=by
 induction u <;> first | exact nomatch (show Option.none=some H' from h) | skip
 induction j <;> first | exact nomatch (show Option.none=some H' from h) | skip
 obtain ⟨l,hl,h⟩:=list_some h
 obtain ⟨c,h⟩:=iteO h
 obtain ⟨i,hi,e⟩:=Option.map_eq_some_iff.mp h
 obtain ⟨rfl,h2⟩:=place_of hi c.1
 exact ⟨_,l,i,rfl,rfl,hl,c.2,h2,e.symm⟩
section
variable {prog:Program} {w:World} {K:Frag} {p:Program} {loose:List Str} {mg mb:Str→Option Value} {A A₀:Around} {base h₀:Heap} {outer:List Env} {env:Env} {L:Addr} {d:Nat} {nm:Nat→Str} {ca:CA} {T:Tb}
theorem h_setAttr (C:Cx0 K p loose mg mb A h₀ env L) (hn:NmOk nm) {fld:Nat→Nat→Bool} (hF:∀ c n,fld c n=true→FldOk K (ca c) (nm n)) {n:Nat} (hN:n < 100) {u v:V} {H H':Hp} (h:setAttr fld u n v H=some H')
  {s:Shared} {m:Str→Option Value} {R:List RO} {X:List (Addr × Obj)} {a b:Value} {Q:Unit→Shared→Prop} {E:Value→Shared→Prop} (hR:Rep w.params nm ca h₀ L X m s.heap R H) (ha:VR (ads R) u a) (hb:VR (ads R) v b)
  (k:∀ h' tk R',Rep w.params nm ca h₀ L X m h' R' H'→ads R'=ads R→Q () { s with heap:=h',toks:=tk }):wpAny (model prog w) A (PySem.setAttr a (nm n) b) Q E s:=by
 obtain ⟨i,c,fs,rfl,hi,hf1,hlen1,rfl⟩:=setAttr_some h
 obtain ⟨x,dx,es,ne,rfl,q1,hfr,I⟩:=hR.getInst hi ha
 have hf:=hF _ _ hf1
 have hl:(getL (nm n) es).isSome=true:=by
  cases hg:getF n fs with
  | some v=>obtain ⟨u,hu,_⟩:=getL_of hn hN hfr hg;rw [hu];rfl
  | none=>rw [(getL_none hn hN hfr hg).1];rfl
 obtain ⟨p1,p2⟩:=putL_of (t:=s.toks + 1) hn hb hN hfr
 have hlen:=hfr.length
 refine set_dict hR.F C.X hR.N I rfl hf.hs hf.hp hf.ht hf.hh hl rfl (upd_two q1 hR.nd).1 (by lia) λh' F' N'=>?_
 exact k h' _ _ (hR.set2 q1 F' N' ⟨x,dx,_,_,rfl,p1⟩ (by rw [hi];exact λq=>nomatch q)) (ads_set q1 rfl)
theorem st_setattr (C:Cx0 K p loose mg mb A h₀ env L) (hl:env.locals=L) (hn:NmOk nm) {fld:Nat→Nat→Bool} (hF:∀ c n,fld c n=true→FldOk K (ca c) (nm n)) {n:Nat} (hN:n < 100) {ra ro:En→Hp→Option (V × Hp)} {value o:PySem.Expr} {pos pos':Pos}
  (ha:SoundAt prog w nm ca A h₀ L env T ra (eval value env)) (ho:SoundAt prog w nm ca A h₀ L env T ro (eval o env)) (hsw:noSwap value=true) :
  StmtAt prog w nm ca A h₀ L env T (λe H=>match ra e H with
   | some (v,h)=>match ro e h with
    | some (u,h)=>match setAttr fld u n v h with
     | some h=>.nx e h
     | _=>.bad
    | _=>.bad
   | _=>.bad) (exec (.Assign [.Attribute o (nm n) pos'] value pos) env):=by
 intro e H s m R X Q E hR hE k
 dsimp only at k
 obtain ⟨v,H1,h1,k⟩:=invK k
 obtain ⟨u,H2,h2,k⟩:=invK k
 obtain ⟨H3,h3,k⟩:=invKh k
 refine plainObj_wpAny_Assign_Attribute (ha e H v H1 h1 s m R X _ _ hR (hE.toN hl) λh' tk R' b hR' e1 vb=>?_) (swaps_no hsw _ _ _)
 refine ho e H1 u H2 h2 _ m R' X _ _ hR' ((hE.mono e1).toN hl) λh4 tk4 R4 a hR4 e4 va=>?_
 refine h_setAttr C hn hF hN h3 hR4 va (vb.mono e4) λh5 tk5 R5 hR5 e5=>?_
 have e6:ads R <+: ads R5:=by rw [e5];exact e1.trans e4
 exact k h5 tk5 m R5 hR5 e6 (hE.mono e6)
theorem st_setidx (hl:env.locals=L) {ra ro ri:En→Hp→Option (V × Hp)} {value o i:PySem.Expr} {pos pos':Pos}
  (ha:SoundAt prog w nm ca A h₀ L env T ra (eval value env)) (ho:SoundAt prog w nm ca A h₀ L env T ro (eval o env)) (hi:SoundAt prog w nm ca A h₀ L env T ri (eval i env)) (hsw:noSwap value=true) :
  StmtAt prog w nm ca A h₀ L env T (λe H=>match ra e H with
   | some (v,h)=>match ro e h with
    | some (u,h)=>match ri e h with
     | some (k,h)=>match setIdx u k v h with
      | some h=>.nx e h
      | _=>.bad
     | _=>.bad
    | _=>.bad
   | _=>.bad) (exec (.Assign [.Subscript o i pos'] value pos) env):=by
 intro e H s m R X Q E hR hE k
 dsimp only at k
 obtain ⟨v,H1,h1,k⟩:=invK k
 obtain ⟨u,H2,h2,k⟩:=invK k
 obtain ⟨j,H3,h3,k⟩:=invK k
 obtain ⟨H4,h4,k⟩:=invKh k
 refine wpAny_Assign_Subscript (ha e H v H1 h1 s m R X _ _ hR (hE.toN hl) λh' tk R' b hR' e1 vb=>?_) (swaps_no hsw _ _ _)
 refine ho e H1 u H2 h2 _ m R' X _ _ hR' ((hE.mono e1).toN hl) λh4' tk4 R4 a hR4 e4 va=>?_
 refine hi e H2 j H3 h3 _ m R4 X _ _ hR4 ((hE.mono (e1.trans e4)).toN hl) λh5 tk5 R5 c hR5 e5 vc=>?_
 obtain ⟨r,l,i,rfl,rfl,hlist,hc,hlt,rfl⟩:=setIdx_some h4
 obtain ⟨t,rfl⟩:=vc
 obtain ⟨x,vs,ne,rfl,q1,hvs,L1⟩:=hR5.getList hlist (va.mono e5)
 have hsz:=hvs.length
 obtain ⟨pre,post,U1,U2,ua,ub⟩:=(upd_one (o':=listOf (vs.set i b).toArray ne) q1 hR5.nd).1.split
 have z:=(hR5.N _ (List.mem_append_left _ (led_one q1)))
 have N5:=hR5.N
 rw [U1] at N5
 have N6:=ki_turn (its':=(vs.set i b).toArray) (n':=ne) (λxs=>xs.setIfInBounds i b) N5 ua ub (by apply Array.toList_inj.mp;simp) (by simp)
 rw [← U2] at N6
 refine ki_setAt z.1 (Int.natCast_nonneg i) (by unfold capL at hc;omega) (by rw [List.size_toArray,← hsz];exact Int.ofNat_lt.mpr hlt) ?_
 have e6:=ads_set (R:=R5) (r':=.one x (listOf (vs.set i b).toArray ne)) q1 rfl
 have e7:ads R <+: ads (R5.set r (.one x (listOf (vs.set i b).toArray ne))):=by rw [e6];exact (e1.trans e4).trans e5
 exact k _ tk5 m _ (hR5.set1 q1 (hR5.F.change (Heap.SameBut.update ..) z.2.1 z.2.2) N6 ⟨x,_,ne,rfl,hvs.set (vb.mono (e4.trans e5)) _⟩ (by rw [hlist];exact λq=>nomatch q)) e7 (hE.mono e7)
theorem iadd_ok {i j:Int} {t u:Tok} {s:Shared} {Q:Value→Shared→Prop} {E:Value→Shared→Prop} (k:∀ tk t,Q (.int (i + j) t) { s with toks:=tk }):wpAny (model prog w) A (inplaceOp .Add (.int i t) (.int j u)) Q E s :=
 PySem.AutoIntOps.iadd_0 (k _ _)
theorem isub_ok {i j:Int} {t u:Tok} {s:Shared} {Q:Value→Shared→Prop} {E:Value→Shared→Prop} (k:∀ tk t,Q (.int (i - j) t) { s with toks:=tk }):wpAny (model prog w) A (inplaceOp .Sub (.int i t) (.int j u)) Q E s :=
 PySem.AutoIntOps.isub_0 (k _ _)
noncomputable def augOk:Bop→Bool
 | .add | .sub=>true
 | _=>false
theorem h_aug {op:Bop} (ho:augOk op=true) {i j:Int} {H:Hp} {v:V} {H':Hp} (h:bop op (.int i) (.int j) H=some (v,H')) {t u:Tok} {s:Shared} {Q:Value→Shared→Prop} {E:Value→Shared→Prop}
  (k:∀ tk y,(∀ φ,VR φ v y)→H'=H→Q y { s with toks:=tk }):wpAny (model prog w) A (inplaceOp (bopOf op) (.int i t) (.int j u)) Q E s:=by
 induction op <;> first | (cases ho;done) | skip
 ·cases h;exact iadd_ok λtk t=>k tk _ (λ_=>⟨t,rfl⟩) rfl
 ·cases h;exact isub_ok λtk t=>k tk _ (λ_=>⟨t,rfl⟩) rfl
theorem st_aug (C:Cx0 K p loose mg mb A h₀ env L) (hl:env.locals=L) (hT:T.names=env.scope.names) (hOk:T.Ok) {x:Nat} {id:Str} {pos pos':Pos} {value:PySem.Expr} (h:T.loc x id=true) {op:Bop} (hop:augOk op=true) {ra:En→Hp→Option (V × Hp)}
  (ha:SoundAt prog w nm ca A h₀ L env T ra (eval value env)) :
  StmtAt prog w nm ca A h₀ L env T (λe H=>match look e x with
   | some (.int i)=>match ra e H with
    | some (.int j,h)=>match bop op (.int i) (.int j) h with
     | some (v,h)=>.nx (put e x v) h
     | _=>.bad
    | _=>.bad
   | _=>.bad) (exec (.AugAssign (.Name id pos') (bopOf op) value pos) env):=by
 intro e H s m R X Q E hR hE k
 obtain ⟨i,hx,k⟩:=invKi k
 obtain ⟨j,H1,h1,k⟩:=invKI k
 obtain ⟨v,H2,h2,kk⟩:=invK k
 have hh:=h
 obtain ⟨rfl,g2,g3⟩:=loc_of hh
 obtain ⟨u,hu,t,rfl⟩:=(hE x _ hx).1 g2
 refine wpAny_AugAssign_Name (wpAny_loadName_local C.hk (by unfold Env.kindOf;rw [← hT];exact g2) (by rw [hl];exact hR.F.ns) hu ?_)
 refine ha e H _ H1 h1 s m R X _ _ hR (hE.toN hl) λh' tk R' b hR' e1 vb=>?_
 obtain ⟨t',rfl⟩:=vb
 refine h_aug hop h2 λtk2 y vy hH=>?_
 subst hH
 exact store_local C hl hT hOk h hR' (hE.mono e1) (vy _) λh3 tk3 m3 hR3 hE3=>kk h3 tk3 m3 R' hR3 e1 hE3
theorem st_augattr (C:Cx0 K p loose mg mb A h₀ env L) (hl:env.locals=L) (hn:NmOk nm) {fld:Nat→Nat→Bool} (hF:∀ c n,fld c n=true→FldOk K (ca c) (nm n)) {n:Nat} (hN:n < 100) {ra ro:En→Hp→Option (V × Hp)} {value o:PySem.Expr} {pos pos':Pos}
  {op:Bop} (hop:augOk op=true) (ha:SoundAt prog w nm ca A h₀ L env T ra (eval value env)) (ho:SoundAt prog w nm ca A h₀ L env T ro (eval o env)) :
  StmtAt prog w nm ca A h₀ L env T (λe H=>match ro e H with
   | some (u,h)=>match attrOf fld u n h with
    | some (.int i)=>match ra e h with
     | some (.int j,h)=>match bop op (.int i) (.int j) h with
      | some (v,h)=>match setAttr fld u n v h with
       | some h=>.nx e h
       | _=>.bad
      | _=>.bad
     | _=>.bad
    | _=>.bad
   | _=>.bad) (exec (.AugAssign (.Attribute o (nm n) pos') (bopOf op) value pos) env):=by
 intro e H s m R X Q E hR hE k
 obtain ⟨u,H1,h1,k⟩:=invK k
 obtain ⟨i,hat,k⟩:=invKi k
 obtain ⟨j,H2,h2,k⟩:=invKI k
 obtain ⟨v,H3,h3,k⟩:=invK k
 obtain ⟨H4,h4,kk⟩:=invKh k
 refine wpAny_AugAssign_AttributeAny (ho e H u H1 h1 s m R X _ _ hR (hE.toN hl) λh' tk R' a hR' e1 va=>?_)
 obtain ⟨x,c,fs,rfl,hi,hc,hg⟩:=attrOf_some hat
 have va':=va
 obtain ⟨x,dx,es,ne,rfl,q1,hfr,I⟩:=hR'.getInst hi va
 obtain ⟨y,hy,vy⟩:=getL_of hn hN hfr hg
 obtain ⟨attr,f1,f2⟩:=(hF _ _ hc).ha
 refine get_own hR'.F C.X I (hF _ _ hc).hg (hF _ _ hc).hh f1 f2 hy (handed_VR vy) ?_
 obtain ⟨t,rfl⟩:=vy
 refine ha e H1 _ H2 h2 _ m R' X _ _ hR' ((hE.mono e1).toN hl) λh5 tk5 R5 b hR5 e5 vb=>?_
 obtain ⟨t',rfl⟩:=vb
 refine h_aug hop h3 λtk2 z vz hH=>?_
 subst hH
 refine h_setAttr C hn hF hN h4 hR5 (va'.mono e5) (vz _) λh6 tk6 R6 hR6 e6=>?_
 have e7:ads R <+: ads R6:=by rw [e6];exact e1.trans e5
 exact kk h6 tk6 m R6 hR6 e7 (hE.mono e7)
theorem st_delidx (hl:env.locals=L) {ro ri:En→Hp→Option (V × Hp)} {o i:PySem.Expr} {pos pos':Pos}
  (ho:SoundAt prog w nm ca A h₀ L env T ro (eval o env)) (hi:SoundAt prog w nm ca A h₀ L env T ri (eval i env)) :
  StmtAt prog w nm ca A h₀ L env T (λe H=>match ro e H with
   | some (u,h)=>match ri e h with
    | some (k,h)=>match delIdx u k h with
     | some h=>.nx e h
     | _=>.bad
    | _=>.bad
   | _=>.bad) (exec (.Delete [.Subscript o i pos'] pos) env):=by
 intro e H s m R X Q E hR hE k
 dsimp only at k
 obtain ⟨u,H2,h2,k⟩:=invK k
 obtain ⟨j,H3,h3,k⟩:=invK k
 obtain ⟨H4,h4,k⟩:=invKh k
 refine wpAny_Delete (wpAny_deleteEach_cons (wpAny_delete_Subscript ?_))
 refine ho e H u H2 h2 s m R X _ _ hR (hE.toN hl) λh4' tk4 R4 a hR4 e4 va=>?_
 refine hi e H2 j H3 h3 _ m R4 X _ _ hR4 ((hE.mono e4).toN hl) λh5 tk5 R5 c hR5 e5 vc=>?_
 obtain ⟨r,l,i,rfl,rfl,hlist,hc,hlt,rfl⟩:=delIdx_some h4
 obtain ⟨t,rfl⟩:=vc
 obtain ⟨x,vs,ne,rfl,q1,hvs,L1⟩:=hR5.getList hlist (va.mono e5)
 have hsz:=hvs.length
 obtain ⟨pre,post,U1,U2,ua,ub⟩:=(upd_one (o':=listOf (vs.eraseIdx i).toArray (ne + 1)) q1 hR5.nd).1.split
 have z:=(hR5.N _ (List.mem_append_left _ (led_one q1)))
 have N5:=hR5.N
 rw [U1] at N5
 have N6:=ki_turn (its':=(vs.eraseIdx i).toArray) (n':=ne + 1) (λxs=>xs.eraseIdxIfInBounds i) N5 ua ub (by apply Array.toList_inj.mp;simp) (by
  rw [if_neg]
  simp only [List.size_toArray,List.length_eraseIdx]
  rw [if_pos (by lia)]
  simp;lia)
 rw [← U2] at N6
 refine PySem.P.delItem_list (n:=ne) (k:=i) z.1 ?_ ?_ ?_ (by rw [List.size_toArray,← hsz];exact capL_line hc)
 ·unfold Builtin.List.listFitsIndex
  unfold capL at hc
  simp;omega
 ·unfold seqIndex?
  rw [List.size_toArray,← hsz]
  simp;lia
 ·have e6:=ads_set (R:=R5) (r':=.one x (listOf (vs.eraseIdx i).toArray (ne + 1))) q1 rfl
  have e7:ads R <+: ads (R5.set r (.one x (listOf (vs.eraseIdx i).toArray (ne + 1)))):=by rw [e6];exact e4.trans e5
  refine wpAny_deleteEach_nil ?_
  exact k _ tk5 m _ (hR5.set1 q1 (hR5.F.change (Heap.SameBut.update ..) z.2.1 z.2.2) N6 ⟨x,_,ne + 1,rfl,hvs.eraseIdx _⟩ (by rw [hlist];exact λq=>nomatch q)) e7 (hE.mono e7)
end
section
variable {prog:Program} {w:World} {K:Frag} {p:Program} {loose:List Str} {mg mb:Str→Option Value} {A A₀:Around} {base h₀:Heap} {outer:List Env} {env:Env} {L:Addr} {d:Nat} {nm:Nat→Str} {ca:CA} {T:Tb}
theorem st_cassign (C:Cx0 K p loose mg mb A h₀ env L) (hl:env.locals=L) (hT:T.names=env.scope.names) {x:Nat} {id:Str} {pos pos':Pos} {value:PySem.Expr} (h:T.cel x id=true) {ra:En→Hp→Option (V × Hp)} (ha:SoundAt prog w nm ca A h₀ L env T ra (eval value env))
  (hsw:noSwap value=true) :
  StmtAt prog w nm ca A h₀ L env T (λe H=>match ra e H with
   | some (v,h)=>match look e x with
    | some (.ref i)=>match h[i]? with
     | some (.cell _)=>.nx e (h.set i (.cell (some v)))
     | _=>.bad
    | _=>.bad
   | _=>.bad) (exec (.Assign [.Name id pos'] value pos) env):=by
 intro e H s m R X Q E hR hE k
 dsimp only at k
 split at k
 ·rename_i v H1 h1
  split at k
  ·rename_i i hx
   split at k
   ·rename_i c hc
    obtain ⟨rfl,g2,g3⟩:=cel_of h
    refine wpAny_Assign_Name (ha e H v H1 h1 s m R X _ _ hR (hE.toN hl) λh' tk R' u hR' e1 vu=>?_) (swaps_no hsw _ _ _)
    obtain ⟨i',a,hia,hga,hca⟩:=(hE.mono e1 x _ hx).2 g2
    cases hia
    obtain ⟨r,hr,q⟩:=hR'.hr.get hc
    obtain ⟨y,oc,v0,rfl,hoc⟩:Ex3 λy oc v0=>r = .one y oc∧oc.data = .cell v0:=by
     cases c with
     | none=>obtain ⟨y,o,a,b⟩:=q;exact ⟨y,o,_,a,b⟩
     | some c=>obtain ⟨y,o,u,a,b,_⟩:=q;exact ⟨y,o,_,a,b⟩
    rw [ads_get hr] at hga
    cases hga
    have z:=hR'.N _ (List.mem_append_left _ (led_one hr))
    refine wpAny_storeName_cell C.hk (by unfold Env.kindOf;rw [← hT];exact g2) hca ⟨_,z.1,hoc⟩ λh2 hv2 hs2=>?_
    obtain ⟨o2,ho2,hd2⟩:=hv2
    obtain ⟨pre,post,U1,U2,ua,ub⟩:=(upd_one (o':=o2) hr hR'.nd).1.split
    have N5:=hR'.N
    rw [U1] at N5
    have N6:=N5.setAt ua ub hs2 ho2
    rw [← U2] at N6
    have e6:=ads_set (R:=R') (r':=.one y o2) hr rfl
    have e7:ads R <+: ads (R'.set i (.one y o2)):=by rw [e6];exact e1
    exact k h2 tk m _ (hR'.set1 hr (hR'.F.change hs2 z.2.1 z.2.2) N6 ⟨y,o2,u,rfl,hd2,vu⟩ (by rw [hc];exact λq=>nomatch q)) e7 (hE.mono e7)
   ·exact k.elim
  ·exact k.elim
 ·exact k.elim
noncomputable def namesOf (ids:List (Str × Pos)):List PySem.Expr:=ids.map λq=>.Name q.1 q.2
theorem assignEach_names {env:Env}:∀ (ids:List (Str × Pos)),assignEach (namesOf ids) env=ids.map λq=>(false,assign (.Name q.1 q.2) env)
 | []=>rfl
 | q :: ids=>by show _ :: _=_ :: _;exact congrArg (List.cons (false,assign (.Name q.1 q.2) env)) (assignEach_names ids)
noncomputable def locs (T:Tb):List Nat→List (Str × Pos)→Bool
 | [],[]=>true
 | x :: xs,q :: qs=>T.loc x q.1 && locs T xs qs
 | _,_=>false
theorem store_each (C:Cx0 K p loose mg mb A h₀ env L) (hl:env.locals=L) (hT:T.names=env.scope.names) (hOk:T.Ok):∀ (xs:List Nat) (ids:List (Str × Pos)) (vs:List V) (us:List Value) (e e':En),locs T xs ids=true→puts e xs vs=some e' →
  ∀ {H:Hp} {s:Shared} {m:Str→Option Value} {R:List RO} {X:List (Addr × Obj)} {Q:Unit→Shared→Prop} {E:Value→Shared→Prop},Rep w.params nm ca h₀ L X m s.heap R H→EnvR T env.cells (ads R) m e→VRs (ads R) vs us →
   (∀ h' tk m',Rep w.params nm ca h₀ L X m' h' R H→EnvR T env.cells (ads R) m' e'→Q () { s with heap:=h',toks:=tk }) →
   wpAny (model prog w) A (assignInOrder ((ids.map λq=>(false,assign (.Name q.1 q.2) env)).map (·.2)) us) Q E s
:=by
 intro xs
 induction xs with
 | nil =>
  intro ids vs us e e' hloc hp H s m R X Q E hR hE hv k
  cases ids with
  | cons=>exact nomatch (show false=true from hloc)
  | nil=>cases vs with
   | cons=>exact nomatch (show Option.none=some e' from hp)
   | nil=>cases us with
    | cons=>exact hv.elim
    | nil =>
     cases hp
     exact assignInOrder_nil (k s.heap s.toks m hR hE)
 | cons x xs ih =>
  intro ids vs us e e' hloc hp H s m R X Q E hR hE hv k
  cases ids with
  | nil=>exact nomatch (show false=true from hloc)
  | cons q ids=>cases vs with
   | nil=>exact nomatch (show Option.none=some e' from hp)
   | cons v vs=>cases us with
    | nil=>exact hv.elim
    | cons u us =>
     have hloc:=Bool.and_eq_true_iff.mp hloc
     exact assignInOrder_cons (wpAny_assign_Name (store_local C hl hT hOk hloc.1 hR hE hv.1 λh' tk m' hR' hE'=>ih ids vs us (put e x v) e' hloc.2 hp (s:={ s with heap:=h',toks:=tk }) hR' hE' hv.2 k))
theorem locs_length {T:Tb} {xs:List Nat}:∀ {ids:List (Str × Pos)},locs T xs ids=true→xs.length=ids.length:=by
 induction xs with
 | nil=>intro ids h;cases ids with
  | nil=>rfl
  | cons=>exact nomatch (show false=true from h)
 | cons x xs ih=>intro ids h;cases ids with
  | nil=>exact nomatch (show false=true from h)
  | cons q ids=>exact congrArg (· + 1) (ih (Bool.and_eq_true_iff.mp h).2)
theorem puts_length {xs:List Nat}:∀ {vs:List V} {e e':En},puts e xs vs=some e'→xs.length=vs.length:=by
 induction xs with
 | nil=>intro vs e e' h;cases vs with
  | nil=>rfl
  | cons=>exact nomatch (show Option.none=some e' from h)
 | cons x xs ih=>intro vs e e' h;cases vs with
  | nil=>exact nomatch (show Option.none=some e' from h)
  | cons q ids=>exact congrArg (· + 1) (ih h)
theorem h_unpack (C:Cx0 K p loose mg mb A h₀ env L) (hl:env.locals=L) (hT:T.names=env.scope.names) (hOk:T.Ok) {xs:List Nat} {ids:List (Str × Pos)} (hloc:locs T xs ids=true) {v:V} {l:List V} {e e':En} {H:Hp} (ht:tupOf v H=some l) (hp:puts e xs l=some e')
  {k':Nat} {pos:Pos} {u:Value} {s:Shared} {m:Str→Option Value} {R:List RO} {X:List (Addr × Obj)} {Q:Unit→Shared→Prop} {E:Value→Shared→Prop} (hR:Rep w.params nm ca h₀ L X m s.heap R H) (hE:EnvR T env.cells (ads R) m e) (hu:VR (ads R) v u)
  (k:∀ h' tk m',Rep w.params nm ca h₀ L X m' h' R H→EnvR T env.cells (ads R) m' e'→Q () { s with heap:=h',toks:=tk }) :
  wpAny (model prog w) A (assign (.Tuple (namesOf ids) k' pos) env u) Q E s:=by
 unfold tupOf at ht
 split at ht
 ·rename_i i
  split at ht
  ·rename_i l' hi
   cases ht
   obtain ⟨x,vs,rfl,hvs,I⟩:=hR.getTup hi hu
   refine unpackN_ hR.F hR.N I C.hh ?_ ?_ λh' F' N'=>?_
   ·rw [assignEach_names];simp [← locs_length hloc,puts_length hp,hvs.length]
   ·rw [assignEach_names];simp
   ·rw [assignEach_names]
    exact store_each C hl hT hOk xs ids _ vs e e' hloc hp (s:={ s with heap:=h' }) ⟨F',N',hR.nd,hR.hr⟩ hE hvs k
  ·cases ht
 ·cases ht
noncomputable def notSeq (e:PySem.Expr):Bool:=Nat.blt e.ctorIdx 24 || Nat.blt 25 e.ctorIdx
theorem st_unpack (C:Cx0 K p loose mg mb A h₀ env L) (hl:env.locals=L) (hT:T.names=env.scope.names) (hOk:T.Ok) {xs:List Nat} {ids:List (Str × Pos)} (hloc:locs T xs ids=true) {ra:En→Hp→Option (V × Hp)} {value:PySem.Expr} {k':Nat} {pos pos':Pos} (ha:SoundAt prog w nm ca A h₀ L env T ra (eval value env))
  (hsw:noSwap value=true) (hns:notSeq value=true) :
  StmtAt prog w nm ca A h₀ L env T (λe H=>match ra e H with
   | some (v,h)=>match tupOf v h with
    | some l=>match puts e xs l with
     | some e=>.nx e h
     | _=>.bad
    | _=>.bad
   | _=>.bad) (exec (.Assign [.Tuple (namesOf ids) k' pos'] value pos) env):=by
 intro e H s m R X Q E hR hE k
 dsimp only at k
 split at k
 ·rename_i v H1 h1
  split at k
  ·rename_i l ht
   split at k
   ·rename_i e' hp
    refine Assign_Tuple (ha e H v H1 h1 s m R X _ _ hR (hE.toN hl) λh' tk R' u hR' e1 vu=>?_) (by unfold swapsWithSole;exact swaps_no hsw _ _ _) (by induction value using PySem.Expr.casesOn <;> first | rfl | exact nomatch (show false=true from hns))
    exact h_unpack C hl hT hOk hloc ht hp (s:={ s with heap:=h',toks:=tk }) hR' (hE.mono e1) vu λh2 tk2 m2 hR2 hE2=>k h2 tk2 m2 R' hR2 e1 hE2
   ·exact k.elim
  ·exact k.elim
 ·exact k.elim
structure ExcOk (K:Frag) (x:Str) (C:Addr):Prop where
 ex:nsIn K mainGlobals x=some (some (.ref C))
 q:excIn K C [.type "Exception",.type "BaseException",.type "object"] "Exception.__new__"=true
theorem st_raise (C:Cx0 K p loose mg mb A h₀ env L) (hT:T.names=env.scope.names) {c:Nat} {x msg:Str} (hx:T.glb x=true) (hc:ExcOk K x (ca c)) {np cp cpos pos:Pos} {k':Nat} :
  StmtAt prog w nm ca A h₀ L env T (λ_ H=>.exc c H) (exec (.Raise (some (.Call (.Name x np) [.Constant (.str msg) k' cp] [] cpos)) none pos) env):=by
 intro e H s m R X Q E hR hE k
 obtain ⟨tl,N,nm',q,bs,hdct,sn,sub,ab,col,dd,k0,k1,k2,k3,k5,mN,hC,hN,hni,TL⟩:=(own_of_in C.X C.T hc.ex hc.q).obj
 refine wpAny_Raise_call_subT (C:=ca c) (nm:=nm') (q:=q) (N:=N) (bs:=bs) (bm:=tl) (hdct:=hdct) (sn:=sn) (sub:=sub) (ab:=ab) (col:=col) (dd:=dd) (k0:=k0) (k1:=k1) (k2:=k2) (k3:=k3) (k5:=k5)
  PySem.F.excBase_Exception (mN:=mN) (TL.hasType (by decide)) C.hh rfl hni (gname C hT hx hc.ex hR.F ⟨rfl,?_⟩)
 refine Calls.evalArgs_plain (x:=eval (.Constant (.str msg) k' cp) env) (rest:=backTo cpos (starEach [] env)) ?_
 refine spliced_more (e:=.Constant (.str msg) k' cp) (rest:=[]) (pos:=cpos) ?_
 rw [eval_Constant]
 show wpAny _ _ (mkText msg) _ _ _
 refine wpAny_mkText (spliced_none ?_)
 exact ⟨rfl,by unfold sizeLine;simp,hR.F.keep _ _ hC,hN.keeps hR.F.keep,TL.keeps hR.F.keep,λh' e' hm=>k h' _ m R s.heap e' hR (List.prefix_refl _) ⟨_,hm⟩⟩
end
section
variable {P:Params} {nm:Nat→Str} {ca:CA} {h₀ h:Heap} {L:Addr} {X:List (Addr × Obj)} {m:Str→Option Value} {R:List RO} {H:Hp}
theorem perm_mid (R:List RO) (q:Addr × Obj) (X:List (Addr × Obj)):(led R ++ q :: X).Perm (q :: (led R ++ X)):=List.perm_middle
theorem Rep.protect (hR:Rep P nm ca h₀ L X m h R H) (ob:Obj) (hf:ob.isFreed=false):Rep P nm ca h₀ L ((h.objs.size,ob) :: X) m (h.push ob) R H:=by
 have hsb:Heap.SameBut h.objs.size (h.push ob) (h.push ob):=Heap.SameBut.refl _ _
 have F1:=Fr.filled hR.F hsb
 have N1:=News.filled hR.F hR.N hsb (o:=ob) (Heap.get?_push_size _ hf)
 refine ⟨F1,λq hq=>N1 q ((perm_mid R _ X).mem_iff.mp hq),?_,hR.hr⟩
 rw [((perm_mid R _ X).map Prod.fst).nodup_iff]
 show (h.objs.size :: (led R ++ X).map Prod.fst).Nodup
 refine List.nodup_cons.mpr ⟨λq=>?_,hR.nd⟩
 obtain ⟨y,hy,e⟩:=List.mem_map.mp q
 exact Nat.ne_of_lt (Heap.lt_size (hR.N y hy).1) e
theorem Rep.unprotect {q:Addr × Obj} (hR:Rep P nm ca h₀ L (q :: X) m h R H):Rep P nm ca h₀ L X m h R H:=by
 have nd:=hR.nd
 rw [((perm_mid R q X).map Prod.fst).nodup_iff] at nd
 exact ⟨hR.F,λp hp=>hR.N p ((perm_mid R q X).mem_iff.mpr (.tail _ hp)),(List.nodup_cons.mp nd).2,hR.hr⟩
theorem Rep.held {q:Addr × Obj} (hR:Rep P nm ca h₀ L (q :: X) m h R H):h.get? q.1=some q.2:=(hR.N q (List.mem_append_right _ (.head _))).1
theorem Rep.other {q:Addr × Obj} (hR:Rep P nm ca h₀ L (q :: X) m h R H):∀ p ∈ led R ++ X,p.1 ≠ q.1:=by
 have nd:=hR.nd
 rw [((perm_mid R q X).map Prod.fst).nodup_iff] at nd
 exact λp hp e=>(List.nodup_cons.mp nd).1 (by show q.1 ∈ _;rw [← e];exact List.mem_map_of_mem (f:=Prod.fst) hp)
theorem Rep.reprotect {q:Addr × Obj} (hR:Rep P nm ca h₀ L (q :: X) m h R H) {h':Heap} (hs:Heap.SameBut q.1 h h') {o':Obj} (ho:h'.get? q.1=some o'):Rep P nm ca h₀ L ((q.1,o') :: X) m h' R H:=by
 have z:=hR.N q (List.mem_append_right _ (.head _))
 refine ⟨hR.F.change hs z.2.1 z.2.2,λp hp=>?_,?_,hR.hr⟩
 ·rcases List.mem_cons.mp ((perm_mid R _ X).mem_iff.mp hp) with rfl | hp
  ·exact ⟨ho,z.2⟩
  ·have zz:=hR.N p ((perm_mid R q X).mem_iff.mpr (.tail _ hp))
   exact ⟨hs.extBut _ _ (hR.other p hp) zz.1,zz.2⟩
 ·have nd:=hR.nd
  rw [((perm_mid R q X).map Prod.fst).nodup_iff] at nd
  rw [((perm_mid R _ X).map Prod.fst).nodup_iff]
  exact nd
theorem Rep.letgo {q:Addr × Obj} (hR:Rep P nm ca h₀ L (q :: X) m h R H) {h':Heap} (hs:Heap.ExtBut q.1 h h'):Rep P nm ca h₀ L X m h' R H:=by
 have z:=hR.N q (List.mem_append_right _ (.head _))
 have u:=hR.unprotect
 refine ⟨⟨u.F.ns.at' λo e=>hs _ _ (Ne.symm z.2.1) e,λb o e=>hs b o (λw=>by rw [w,z.2.2] at e;cases e) (u.F.keep b o e),u.F.above⟩,λp hp=>?_,u.nd,u.hr⟩
 have zz:=u.N p hp
 exact ⟨hs _ _ (hR.other p hp) zz.1,zz.2⟩
end
section
variable {prog:Program} {w:World} {A:Around} {E:Value→Shared→Prop} {s:Shared} {env:Env} {target:PySem.Expr} {it:Value} {body:List Stmt} {Q:Flow→Shared→Prop}
noncomputable def ForRest (prog:Program) (w:World) (A:Around) (E:Value→Shared→Prop) (env:Env) (target:PySem.Expr) (it:Value) (body:List Stmt) (Q:Flow→Shared→Prop) (s:Shared):Prop :=
 codeAny (model prog w) A (.forLoop target it body [] env) (λr s'=>match r with | .ok f=>Q f s' | .error e=>cameBackBy (model prog w) A env E e s') s
theorem for_turn (hE:PassesOwn (model prog w) A env E)
  (h:wpAny (model prog w) A (pyNext it) (λr s₁=>match r with
   | none=>Q .next s₁
   | some v=>wpAny (model prog w) A (letOwnedTupleGo target it v) (λ_ s₁'=>wpAny (model prog w) A (assign target env v) (λ_ s₂=>wpAny (model prog w) A (execs body env) (λf s₃=>match f with
    | .next | .cont=>ForRest prog w A E env target it body Q s₃
    | .brk=>Q .next s₃
    | .ret v=>Q (.ret v) s₃) E s₂) E s₁') E s₁) E s):ForRest prog w A E env target it body Q s:=by
 refine codeAny_of_tree ?_
 show wpAny _ A ((forTurn target it body [] env).onRaise (λx=>do noteFrame x env;theTreesLotGoes x)) _ _ s
 refine wpAny_noted ?_
 simp only [forTurn]
 refine wpAny_bind (wpAny_standAt (wpAny_bind (wpAny_onRaise (wpAny_mono h (λr s₁ h₁=>?_) λ_ _ h'=>wpAny_standAt (hE _ _ h')))))
 cases r with
 | none=>exact wpAny_pure ⟨rfl,codeAny_block (wpAny_execs_nil h₁)⟩
 | some v =>
  refine wpAny_bind (wpAny_mono h₁ (λ_ s₁' h₁'=>?_) hE)
  refine wpAny_bind (wpAny_mono h₁' (λ_ s₂ h₂=>wpAny_bind (wpAny_mono h₂ (λf s₃ h₃=>?_) hE)) hE)
  cases f with
  | next=>exact wpAny_pure ⟨rfl,h₃⟩
  | cont=>exact wpAny_pure ⟨rfl,h₃⟩
  | brk=>exact wpAny_pure h₃
  | ret v=>exact wpAny_pure h₃
end
noncomputable def gloop (fetch:Nat→Hp→Option (Option V)) (st:En→V→Hp→Option En) (b:En→Hp→SRes):Nat→Nat→En→Hp→SRes
 | 0,_,_,_=>.bad
 | n + 1,i,e,h =>
  match fetch i h with
  | some (some v)=>match st e v h with
   | some e=>match b e h with
    | .nx e h=>gloop fetch st b n (i + 1) e h
    | .brk e h=>.nx e h
    | .ret v h=>.ret v h
    | _=>.bad
   | Option.none=>.bad
  | some Option.none=>.nx e h
  | Option.none=>.bad
theorem floop_g (st:En→V→Hp→Option En) (b:En→Hp→SRes) (sel:Hp→Option (List V)):∀ n i e h,floop st b sel n i e h=gloop (λi h=>(sel h).map λl=>l[i]?) st b n i e h
 | 0,_,_,_=>rfl
 | n + 1,i,e,h=>by
  unfold floop gloop
  cases sel h with
  | none=>rfl
  | some l =>
   dsimp only [Option.map]
   cases l[i]? with
   | none=>rfl
   | some v =>
    dsimp only
    cases st e v h with
    | none=>rfl
    | some e' =>
     dsimp only
     cases b e' h <;> first | rfl | exact floop_g st b sel n (i + 1) _ _
theorem rloop_g (st:En→V→En) (b:En→Hp→SRes) (a c:Int) (N:Nat):∀ n i e h,i + n=N→rloop st b a c n i e h=gloop (λi _=>if i < N then some (some (.int (a + c * i))) else some Option.none) (λe v _=>some (st e v)) b (n + 1) i e h
 | 0,i,e,h,hi=>by
  unfold rloop gloop
  dsimp only
  rw [if_neg (by lia)]
 | n + 1,i,e,h,hi=>by
  unfold rloop gloop
  dsimp only
  rw [if_pos (by lia)]
  dsimp only
  cases b (st e (.int (a + c * i))) h <;> first | rfl | exact rloop_g st b a c N n (i + 1) _ _ (by lia)
theorem gloop_exc {fetch:Nat→Hp→Option (Option V)} {st:En→V→Hp→Option En} {b:En→Hp→SRes}:∀ {n i e h c h'},gloop fetch st b n i e h ≠ .exc c h'
 | 0,_,_,_,_,_=>by unfold gloop;exact λq=>nomatch q
 | n + 1,i,e,h,c,h'=>by
  unfold gloop
  repeat' split
  all_goals first | exact gloop_exc | exact λq=>nomatch q
theorem wloop_exc {t:En→Hp→Option (Bool × Hp)} {b:En→Hp→SRes}:∀ {n e h c h'},wloop t b n e h ≠ .exc c h'
 | 0,_,_,_,_=>by unfold wloop;exact λq=>nomatch q
 | n + 1,e,h,c,h'=>by
  unfold wloop
  repeat' split
  all_goals first | exact wloop_exc | exact λq=>nomatch q
section
variable {prog:Program} {w:World} {K:Frag} {p:Program} {loose:List Str} {mg mb:Str→Option Value} {A A₀:Around} {base h₀:Heap} {outer:List Env} {env:Env} {L:Addr} {d:Nat} {nm:Nat→Str} {ca:CA} {T:Tb}
theorem Kont.calm {res:SRes} {s:Shared} {R:List RO} {X:List (Addr × Obj)} {Q:Flow→Shared→Prop} {E E':Value→Shared→Prop} (h:Kont w nm ca h₀ L env T res s R X Q E) (hn:∀ c h',res ≠ .exc c h'):Kont w nm ca h₀ L env T res s R X Q E':=by
 cases res with
 | exc c H'=>exact absurd rfl (hn c H')
 | nx e' H'=>exact h
 | brk e' H'=>exact h
 | ret v H'=>exact h
 | bad=>exact h
structure ItOk (prog:Program) (w:World) (nm:Nat→Str) (ca:CA) (A:Around) (h₀:Heap) (L I:Addr) (fetch:Nat→Hp→Option (Option V)) (St:Nat→Obj→List Addr→Prop):Prop where
 item:∀ (i:Nat) (H:Hp) (v:V) (s:Shared) (m:Str→Option Value) (R:List RO) (X:List (Addr × Obj)) (oI:Obj) (Q:Option Value→Shared→Prop) (E:Value→Shared→Prop),fetch i H=some (some v) →
  Rep w.params nm ca h₀ L ((I,oI) :: X) m s.heap R H→St i oI (ads R) →
  (∀ h' tk oI' u,Rep w.params nm ca h₀ L ((I,oI') :: X) m h' R H→St (i + 1) oI' (ads R)→VR (ads R) v u→Q (some u) { s with heap:=h',toks:=tk })→wpAny (model prog w) A (pyNext (.ref I)) Q E s
 done:∀ (i:Nat) (H:Hp) (s:Shared) (m:Str→Option Value) (R:List RO) (X:List (Addr × Obj)) (oI:Obj) (Q:Option Value→Shared→Prop) (E:Value→Shared→Prop),fetch i H=some Option.none →
  Rep w.params nm ca h₀ L ((I,oI) :: X) m s.heap R H→St i oI (ads R) →
  (∀ h' tk,Rep w.params nm ca h₀ L X m h' R H→Q none { s with heap:=h',toks:=tk })→wpAny (model prog w) A (pyNext (.ref I)) Q E s
 mono:∀ i oI φ ψ,St i oI φ→φ <+: ψ→St i oI ψ
theorem loop_sound {I:Addr} {fetch:Nat→Hp→Option (Option V)} {St:Nat→Obj→List Addr→Prop} (hI:ItOk prog w nm ca A h₀ L I fetch St) {st:En→V→Hp→Option En} {rb:En→Hp→SRes} {target:PySem.Expr} {body:List Stmt}
  (hlet:∀ (i:Nat) (oI:Obj) (φ:List Addr) (v:Value) (s:Shared) (Q:Unit→Shared→Prop) (E:Value→Shared→Prop),(s.heap.get? I=some oI)→St i oI φ→Q () s→wpAny (model prog w) A (letOwnedTupleGo target (.ref I) v) Q E s)
  (hst:∀ (e:En) (v:V) (H:Hp) (e':En) (u:Value) (s:Shared) (m:Str→Option Value) (R:List RO) (X:List (Addr × Obj)) (Q:Unit→Shared→Prop) (E:Value→Shared→Prop),st e v H=some e'→Rep w.params nm ca h₀ L X m s.heap R H→EnvR T env.cells (ads R) m e→VR (ads R) v u →
   (∀ h' tk m',Rep w.params nm ca h₀ L X m' h' R H→EnvR T env.cells (ads R) m' e'→Q () { s with heap:=h',toks:=tk })→wpAny (model prog w) A (assign target env u) Q E s)
  (hb:StmtAt prog w nm ca A h₀ L env T rb (execs body env)) :
  ∀ (n i:Nat) (e:En) (H:Hp) (s:Shared) (m:Str→Option Value) (R:List RO) (X:List (Addr × Obj)) (oI:Obj) (Q:Flow→Shared→Prop),Rep w.params nm ca h₀ L ((I,oI) :: X) m s.heap R H→EnvR T env.cells (ads R) m e→St i oI (ads R) →
   Kont w nm ca h₀ L env T (gloop fetch st rb n i e H) s R X Q (λ_ _=>False)→ForRest prog w A (λ_ _=>False) env target (.ref I) body Q s
 | 0,i,e,H,s,m,R,X,oI,Q,hR,hE,hS,k=>by unfold gloop at k;exact k.elim
 | n + 1,i,e,H,s,m,R,X,oI,Q,hR,hE,hS,k=>by
  unfold gloop at k
  refine for_turn PassesOwn.never ?_
  split at k
  ·rename_i v hf
   split at k
   ·rename_i e' he'
    refine hI.item i H v s m R X oI _ _ hf hR hS λh' tk oI' u hR' hS' vu=>?_
    refine hlet (i + 1) oI' (ads R) u _ _ _ hR'.held hS' ?_
    refine hst e v H e' u _ m R _ _ _ he' hR' hE vu λh2 tk2 m2 hR2 hE2=>?_
    refine hb e' H _ m2 R _ _ _ hR2 hE2 ?_
    cases hr:rb e' H with
    | nx e3 H3 =>
     rw [hr] at k
     intro h3 tk3 m3 R3 hR3 e4 hE3
     refine loop_sound hI hlet hst hb n (i + 1) e3 H3 { s with heap:=h3,toks:=tk3 } m3 R3 X oI' Q hR3 hE3 (hI.mono _ _ _ _ hS' e4) (Kont.later k e4)
    | brk e3 H3 =>
     rw [hr] at k
     exact λh3 tk3 m3 R3 hR3 e4 hE3=>k h3 tk3 m3 R3 hR3.unprotect e4 hE3
    | ret v3 H3 =>
     rw [hr] at k
     exact λh3 tk3 m3 R3 u3 hR3 e4 vu3=>k h3 tk3 m3 R3 u3 hR3.unprotect e4 vu3
    | exc c H3=>rw [hr] at k;exact k.elim
    | bad=>rw [hr] at k;exact k.elim
   ·exact k.elim
  ·rename_i hf
   exact hI.done i H s m R X oI _ _ hf hR hS λh' tk hR'=>k h' tk m R hR' (List.prefix_refl _) hE
  ·exact k.elim
noncomputable def LsSt (r:Nat) (i:Nat) (oI:Obj) (φ:List Addr):Prop:=∃ ax,And3 (φ[r]?=some ax) (oI.cls = .type "list_iterator") (oI.data = .fields #[.ref ax,.int i 0])
noncomputable def TpSt (r:Nat) (i:Nat) (oI:Obj) (φ:List Addr):Prop:=∃ ax,And3 (φ[r]?=some ax) (oI.cls = .type "tuple_iterator") (oI.data = .fields #[.ref ax,.int i 0])
theorem pre_get {φ ψ:List Addr} (e:φ <+: ψ) {r:Nat} {a:Addr} (h:φ[r]?=some a):ψ[r]?=some a:=by
 obtain ⟨S,rfl⟩:=e
 rw [List.getElem?_append_left (List.getElem?_eq_some_iff.mp h).1];exact h
theorem it_list (hh:A.handled=none) (I:Addr) (r:Nat):ItOk prog w nm ca A h₀ L I (λi h=>(listAt r h).map λl=>l[i]?) (LsSt r) where
 item:=by
  rintro i H v s m R X oI Q E hf hR ⟨ax,hax,hc,hd⟩ k
  obtain ⟨l,hl,hv⟩:=Option.map_eq_some_iff.mp hf
  unfold listAt at hl
  split at hl
  ·rename_i l' hi
   split at hl
   ·cases hl
    obtain ⟨x,vs,n,e,q1,hvs,L1⟩:=hR.unprotect.getList hi ⟨ax,hax,rfl⟩
    cases e
    obtain ⟨u,hu,vu⟩:=hvs.get hv
    refine wpAny_pyNext_list_item ⟨oI,hR.held,hc,hd⟩ L1 (x:=u) (by simpa using hu) λh' hit' hs'=>?_
    obtain ⟨o',ho',hc',hd'⟩:=hit'
    exact k h' s.toks o' u (hR.reprotect hs' ho') ⟨ax,hax,hc',hd'⟩ vu
   ·cases hl
  ·cases hl
 done:=by
  rintro i H s m R X oI Q E hf hR ⟨ax,hax,hc,hd⟩ k
  obtain ⟨l,hl,hv⟩:=Option.map_eq_some_iff.mp hf
  unfold listAt at hl
  split at hl
  ·rename_i l' hi
   split at hl
   ·cases hl
    obtain ⟨x,vs,n,e,q1,hvs,L1⟩:=hR.unprotect.getList hi ⟨ax,hax,rfl⟩
    cases e
    refine wpAny_pyNext_list_end hh ⟨oI,hR.held,hc,hd⟩ L1 ?_ λh' he'=>k h' s.toks (hR.letgo he')
    have:=List.getElem?_eq_none_iff.mp hv
    rw [hvs.length] at this
    simp;omega
   ·cases hl
  ·cases hl
 mono:=λi oI φ ψ ⟨ax,a,b,c⟩ e=>⟨ax,pre_get e a,b,c⟩
theorem it_tup (hh:A.handled=none) (I:Addr) (r:Nat):ItOk prog w nm ca A h₀ L I (λi h=>(tupAt r h).map λl=>l[i]?) (TpSt r) where
 item:=by
  rintro i H v s m R X oI Q E hf hR ⟨ax,hax,hc,hd⟩ k
  obtain ⟨l,hl,hv⟩:=Option.map_eq_some_iff.mp hf
  unfold tupAt at hl
  split at hl
  ·rename_i l' hi
   split at hl
   ·cases hl
    obtain ⟨q,hq,y,vs,n,rfl,hvs⟩:=hR.hr.get hi
    rw [ads_get hq] at hax
    cases hax
    have L1:s.heap.IsTuple y vs.toArray:=⟨_,(hR.unprotect.N _ (List.mem_append_left _ (led_one hq))).1,rfl,n,rfl⟩
    obtain ⟨u,hu,vu⟩:=hvs.get hv
    refine wpAny_pyNext_tuple_item ⟨oI,hR.held,hc,hd⟩ L1 (x:=u) (by simpa using hu) λh' hit' hs'=>?_
    obtain ⟨o',ho',hc',hd'⟩:=hit'
    exact k h' s.toks o' u (hR.reprotect hs' ho') ⟨y,ads_get hq,hc',hd'⟩ vu
   ·cases hl
  ·cases hl
 done:=by
  rintro i H s m R X oI Q E hf hR ⟨ax,hax,hc,hd⟩ k
  obtain ⟨l,hl,hv⟩:=Option.map_eq_some_iff.mp hf
  unfold tupAt at hl
  split at hl
  ·rename_i l' hi
   split at hl
   ·cases hl
    obtain ⟨q,hq,y,vs,n,rfl,hvs⟩:=hR.hr.get hi
    rw [ads_get hq] at hax
    cases hax
    have L1:s.heap.IsTuple y vs.toArray:=⟨_,(hR.unprotect.N _ (List.mem_append_left _ (led_one hq))).1,rfl,n,rfl⟩
    refine wpAny_pyNext_tuple_end hh ⟨oI,hR.held,hc,hd⟩ L1 ?_ λh' he'=>k h' s.toks (hR.letgo he')
    have:=List.getElem?_eq_none_iff.mp hv
    rw [hvs.length] at this
    simp;omega
   ·cases hl
  ·cases hl
 mono:=λi oI φ ψ ⟨ax,a,b,c⟩ e=>⟨ax,pre_get e a,b,c⟩
end
section
variable {prog:Program} {w:World} {K:Frag} {p:Program} {loose:List Str} {mg mb:Str→Option Value} {A A₀:Around} {base h₀:Heap} {outer:List Env} {env:Env} {L:Addr} {d:Nat} {nm:Nat→Str} {ca:CA} {T:Tb}
noncomputable def RgSt (a c:Int) (N:Nat) (i:Nat) (oI:Obj) (_:List Addr):Prop:=i ≤ N∧oI = { cls:=.type "range_iterator",dict:=none,data:=.fields #[rawInt (a + i * c),rawInt ((N:Int) - i),rawInt c],slots:=#[] }
theorem it_range (hh:A.handled=none) (I:Addr) (a c:Int) (N:Nat):ItOk prog w nm ca A h₀ L I (λi _=>if i < N then some (some (.int (a + c * i))) else some Option.none) (RgSt a c N) where
 item:=by
  rintro i H v s m R X oI Q E hf hR ⟨hi,rfl⟩ k
  split at hf
  ·rename_i hlt
   cases hf
   refine wpAny_pyNext_range_item (show IsRangeIter s.heap I (a + i * c) ((N:Int) - i) c from hR.held) (by lia) λh' hit' hs'=>?_
   refine k h' _ _ _ (hR.reprotect hs' hit') ⟨by assumption,?_⟩ ⟨s.toks,by rw [Int.mul_comm]⟩
   have e1:a + ((i + 1:Nat):Int) * c=a + (i:Int) * c + c:=by push_cast;rw [Int.add_mul,Int.one_mul,Int.add_assoc]
   have e2:(N:Int) - ((i + 1:Nat):Int)=(N:Int) - (i:Int) - 1:=by push_cast;lia
   rw [e1,e2]
  ·cases hf
 done:=by
  rintro i H s m R X oI Q E hf hR ⟨hi,rfl⟩ k
  split at hf
  ·cases hf
  ·rename_i hlt
   exact wpAny_pyNext_range_end hh (show IsRangeIter s.heap I (a + i * c) ((N:Int) - i) c from hR.held) (by lia) λh' he'=>k h' s.toks (hR.letgo he')
 mono:=λi oI φ ψ h _=>h
theorem let_name {x:Str} {pos:Pos} {it v:Value} {s:Shared} {Q:Unit→Shared→Prop} {E:Value→Shared→Prop} (q:Q () s):wpAny (model prog w) A (letOwnedTupleGo (.Name x pos) it v) Q E s:=wpAny_pure q
theorem set_name (C:Cx0 K p loose mg mb A h₀ env L) (hl:env.locals=L) (hT:T.names=env.scope.names) (hOk:T.Ok) {x:Nat} {id:Str} {pos:Pos} (h:T.loc x id=true) :
  ∀ (e:En) (v:V) (H:Hp) (e':En) (u:Value) (s:Shared) (m:Str→Option Value) (R:List RO) (X:List (Addr × Obj)) (Q:Unit→Shared→Prop) (E:Value→Shared→Prop),some (put e x v)=some e'→Rep w.params nm ca h₀ L X m s.heap R H→EnvR T env.cells (ads R) m e→VR (ads R) v u →
   (∀ h' tk m',Rep w.params nm ca h₀ L X m' h' R H→EnvR T env.cells (ads R) m' e'→Q () { s with heap:=h',toks:=tk })→wpAny (model prog w) A (assign (.Name id pos) env u) Q E s:=by
 intro e v H e' u s m R X Q E he hR hE vu k
 cases he
 exact wpAny_assign_Name (store_local C hl hT hOk h hR hE vu k)
theorem st_for (C:Cx0 K p loose mg mb A h₀ env L) (hl:env.locals=L) (hT:T.names=env.scope.names) (hOk:T.Ok) {x:Nat} {id:Str} {tpos pos:Pos} (h:T.loc x id=true) {iter:PySem.Expr} {body:List Stmt} {ra:En→Hp→Option (V × Hp)} {rb:En→Hp→SRes}
  (hset:setLike iter=false) (ha:SoundAt prog w nm ca A h₀ L env T ra (eval iter env)) (hb:StmtAt prog w nm ca A h₀ L env T rb (execs body env)) (F:Nat) :
  StmtAt prog w nm ca A h₀ L env T (λe H=>match ra e H with
   | some (.ref r,h)=>match h[r]? with
    | some (.list _)=>floop (λe v _=>some (put e x v)) rb (listAt r) F 0 e h
    | some (.tuple _)=>floop (λe v _=>some (put e x v)) rb (tupAt r) F 0 e h
    | _=>.bad
   | _=>.bad) (exec (.For (.Name id tpos) iter body [] pos) env):=by
 intro e H s m R X Q E hR hE k
 dsimp only at k
 refine wpAny_noRaise ?_
 split at k
 ·rename_i r H1 h1
  refine wpAny_For (ha e H _ H1 h1 s m R X _ _ hR (hE.toN hl) λh' tk R' u hR' e1 vu=>?_) (λy=>folded_plain hset env y)
  split at k
  ·rename_i l hi
   obtain ⟨y,vs,n,rfl,q1,hvs,L1⟩:=hR'.getList hi vu
   refine wpAny_pyIter_list L1 ?_
   rw [floop_g] at k
   exact loop_sound (it_list C.hh _ r) (λi oI φ v s Q E _ _ q=>let_name q) (set_name C hl hT hOk h) hb F 0 e H1 _ m R' X _ Q (hR'.protect _ rfl) (hE.mono e1) ⟨y,ads_get q1,rfl,rfl⟩ (Kont.later (k.calm λc h'=>gloop_exc) e1)
  ·rename_i l hi
   obtain ⟨q,hq,y,vs,n,rfl,hvs⟩:=hR'.hr.get hi
   obtain ⟨a,hga,rfl⟩:=vu
   rw [ads_get hq] at hga
   cases hga
   refine wpAny_pyIter_tuple (items:=vs.toArray) ⟨_,(hR'.N _ (List.mem_append_left _ (led_one hq))).1,rfl,n,rfl⟩ ?_
   rw [floop_g] at k
   exact loop_sound (it_tup C.hh _ r) (λi oI φ v s Q E _ _ q=>let_name q) (set_name C hl hT hOk h) hb F 0 e H1 _ m R' X _ Q (hR'.protect _ rfl) (hE.mono e1) ⟨y,ads_get hq,rfl,rfl⟩ (Kont.later (k.calm λc h'=>gloop_exc) e1)
  ·exact k.elim
 ·exact k.elim
theorem st_forT (C:Cx0 K p loose mg mb A h₀ env L) (hl:env.locals=L) (hT:T.names=env.scope.names) (hOk:T.Ok) {xs:List Nat} {ids:List (Str × Pos)} (hloc:locs T xs ids=true) {k':Nat} {tpos pos:Pos} {iter:PySem.Expr} {body:List Stmt} {ra:En→Hp→Option (V × Hp)} {rb:En→Hp→SRes}
  (hset:setLike iter=false) (ha:SoundAt prog w nm ca A h₀ L env T ra (eval iter env)) (hb:StmtAt prog w nm ca A h₀ L env T rb (execs body env)) (F:Nat) :
  StmtAt prog w nm ca A h₀ L env T (λe H=>match ra e H with
   | some (.ref r,h)=>floop (λe v h=>(tupOf v h).bind λl=>puts e xs l) rb (listAt r) F 0 e h
   | _=>.bad) (exec (.For (.Tuple (namesOf ids) k' tpos) iter body [] pos) env):=by
 intro e H s m R X Q E hR hE k
 dsimp only at k
 refine wpAny_noRaise ?_
 split at k
 ·rename_i r H1 h1
  refine wpAny_For (ha e H _ H1 h1 s m R X _ _ hR (hE.toN hl) λh' tk R' u hR' e1 vu=>?_) (λy=>folded_plain hset env y)
  cases F with
  | zero=>unfold floop at k;exact k.elim
  | succ F =>
   have hl2:∃ l,listAt r H1=some l:=by
    unfold floop at k
    cases hq:listAt r H1 with
    | none=>rw [hq] at k;exact k.elim
    | some l=>exact ⟨l,rfl⟩
   obtain ⟨l,hl2⟩:=hl2
   have hi:H1[r]?=some (.list l):=by
    unfold listAt at hl2
    split at hl2
    ·rename_i l' hi
     split at hl2
     ·cases hl2;exact hi
     ·cases hl2
    ·cases hl2
   obtain ⟨y,vs,n,rfl,q1,hvs,L1⟩:=hR'.getList hi vu
   refine wpAny_pyIter_list L1 ?_
   rw [floop_g] at k
   refine loop_sound (it_list C.hh _ r) (λi oI φ v s Q E ho hs q=>?_) (λe v H e' u s m R X Q E he hR hE vu kk=>?_) hb (F + 1) 0 e H1 _ m R' X _ Q (hR'.protect _ rfl) (hE.mono e1) ⟨y,ads_get q1,rfl,rfl⟩ (Kont.later (k.calm λc h'=>gloop_exc) e1)
   ·obtain ⟨ax,_,hc,hd⟩:=hs
    cases v with
    | ref T=>exact wpAny_letOwnedTupleGo_listiter ⟨oI,ho,hc,hd⟩ q
    | _=>exact wpAny_pure q
   ·obtain ⟨l',ht,hp⟩:=Option.bind_eq_some_iff.mp he
    exact h_unpack C hl hT hOk hloc ht hp hR hE vu kk
 ·exact k.elim
theorem st_forR (C:Cx0 K p loose mg mb A h₀ env L) (hl:env.locals=L) (hT:T.names=env.scope.names) (hOk:T.Ok) {x:Nat} {id:Str} {tpos pos:Pos} (h:T.loc x id=true) {iter:PySem.Expr} {body:List Stmt} {ra rb rc:En→Hp→Option (V × Hp)} {rs:En→Hp→SRes}
  (hset:setLike iter=false) (ha:RngOk prog w nm ca A h₀ L env T ra rb rc (eval iter env)) (hb:StmtAt prog w nm ca A h₀ L env T rs (execs body env)) :
  StmtAt prog w nm ca A h₀ L env T (λe H=>match ra e H with
   | some (.int i,h)=>match rb e h with
    | some (.int j,h)=>match rc e h with
     | some (.int k,h)=>if rangeOk i j k then rloop (λe v=>put e x v) rs i k (rangeCount i j k) 0 e h else .bad
     | _=>.bad
    | _=>.bad
   | _=>.bad) (exec (.For (.Name id tpos) iter body [] pos) env):=by
 intro e H s m R X Q E hR hE k
 dsimp only at k
 refine wpAny_noRaise ?_
 split at k
 ·rename_i i H1 h1
  split at k
  ·rename_i j H2 h2
   split at k
   ·rename_i c H3 h3
    split at k
    ·rename_i hok
     refine wpAny_For (ha e H i j c H1 H2 H3 h1 h2 h3 hok s m R X _ _ hR (hE.toN hl) λh' tk R' r t u v' hR' e1 hr=>?_) (λy=>folded_plain hset env y)
     obtain ⟨c1,c2,c3,c4⟩:=rangeOk_of hok
     refine wpAny_pyIter_range hr (range_small hok) ?_
     rw [range_size c3]
     rw [rloop_g _ _ _ _ (rangeCount i j c) _ _ _ _ (by exact Nat.add_comm _ _)] at k
     refine loop_sound (it_range C.hh _ i c (rangeCount i j c)) (λi oI φ v s Q E _ _ q=>let_name q) (set_name C hl hT hOk h) hb _ 0 e H3 _ m R' X _ Q (hR'.protect _ rfl) (hE.mono e1) ⟨Nat.zero_le _,by simp⟩ (Kont.later (k.calm λc h'=>gloop_exc) e1)
    ·exact k.elim
   ·exact k.elim
  ·exact k.elim
 ·exact k.elim
theorem while_sound {rt:En→Hp→Option (Bool × Hp)} {rb:En→Hp→SRes} {test:PySem.Expr} {body:List Stmt} (hl:env.locals=L) (ht:TestAt prog w nm ca A h₀ L env T rt (isTrue test env (eval test env))) (hb:StmtAt prog w nm ca A h₀ L env T rb (execs body env)) :
  ∀ (n:Nat) (e:En) (H:Hp) (s:Shared) (m:Str→Option Value) (R:List RO) (X:List (Addr × Obj)) (Q:Flow→Shared→Prop),Rep w.params nm ca h₀ L X m s.heap R H→EnvR T env.cells (ads R) m e →
   Kont w nm ca h₀ L env T (wloop rt rb n e H) s R X Q (λ_ _=>False)→WhlRest prog w A (λ_ _=>False) env test body [] Q n s
 | 0,e,H,s,m,R,X,Q,hR,hE,k=>by unfold wloop at k;exact k.elim
 | n + 1,e,H,s,m,R,X,Q,hR,hE,k=>by
  unfold wloop at k
  refine whl_turn PassesOwn.never ?_
  split at k
  ·rename_i H1 h1
   refine ht e H true H1 h1 s m R X _ _ hR (hE.toN hl) λh' tk R' hR' e1=>WhlIf.yes rfl ?_
   refine hb e H1 _ m R' X _ _ hR' (hE.mono e1) ?_
   cases hr:rb e H1 with
   | nx e3 H3 =>
    rw [hr] at k
    intro h3 tk3 m3 R3 hR3 e4 hE3
    exact while_sound hl ht hb n e3 H3 { s with heap:=h3,toks:=tk3 } m3 R3 X Q hR3 hE3 (Kont.later k (e1.trans e4))
   | brk e3 H3 =>
    rw [hr] at k
    exact λh3 tk3 m3 R3 hR3 e4 hE3=>k h3 tk3 m3 R3 hR3 (e1.trans e4) hE3
   | ret v3 H3 =>
    rw [hr] at k
    exact λh3 tk3 m3 R3 u3 hR3 e4 vu3=>k h3 tk3 m3 R3 u3 hR3 (e1.trans e4) vu3
   | exc c H3=>rw [hr] at k;exact k.elim
   | bad=>rw [hr] at k;exact k.elim
  ·rename_i H1 h1
   refine ht e H false H1 h1 s m R X _ _ hR (hE.toN hl) λh' tk R' hR' e1=>WhlIf.no rfl ?_
   exact wpAny_execs_nil (k h' tk m R' hR' e1 (hE.mono e1))
  ·exact k.elim
theorem st_while {rt:En→Hp→Option (Bool × Hp)} {rb:En→Hp→SRes} {test:PySem.Expr} {body:List Stmt} {pos:Pos} (hl:env.locals=L) (ht:TestAt prog w nm ca A h₀ L env T rt (isTrue test env (eval test env))) (hb:StmtAt prog w nm ca A h₀ L env T rb (execs body env)) (n:Nat) :
  StmtAt prog w nm ca A h₀ L env T (λe H=>wloop rt rb n e H) (exec (.While test body [] pos) env):=by
 intro e H s m R X Q E hR hE k
 exact wpAny_noRaise (whl_start n (while_sound hl ht hb n e H s m R X Q hR hE (k.calm λc h'=>wloop_exc)))
end
section
variable {P:Params} {nm:Nat→Str} {ca:CA} {h₀ h:Heap} {L:Addr} {X:List (Addr × Obj)} {m:Str→Option Value} {R:List RO} {H:Hp}
theorem one_apart {i:Nat} {x:Addr} {o:Obj} (nd:((led R ++ X).map Prod.fst).Nodup) (hi:R[i]?=some (.one x o)) :
  (∀ q ∈ X,q.1 ≠ x)∧∀ j r,R[j]?=some r→j ≠ i→∀ q ∈ r.seg,q.1 ≠ x:=by
 obtain ⟨p,q,rfl,rfl⟩:=getElem?_split hi
 have e:led (p ++ .one x o :: q) ++ X=led p ++ (x,o) :: (led q ++ X):=by
  rw [led_append];simp [led,RO.seg]
 rw [e] at nd
 obtain ⟨a,b⟩:=nodup_apart nd
 refine ⟨λz hz=>b z (List.mem_append_right _ hz),λj r hj hne z hz=>?_⟩
 have hmem:r ∈ p∨r ∈ q:=by
  rw [List.getElem?_append] at hj
  split at hj
  ·exact .inl (List.mem_of_getElem? hj)
  ·rename_i hlt
   have:j - p.length ≠ 0:=by lia
   obtain ⟨n,hn⟩:=Nat.exists_eq_succ_of_ne_zero this
   rw [hn] at hj
   exact .inr (List.mem_of_getElem? (by simpa using hj))
 rcases hmem with hm | hm
 ·exact a z (List.mem_flatMap.mpr ⟨r,hm,hz⟩)
 ·exact b z (List.mem_append_left _ (List.mem_flatMap.mpr ⟨r,hm,hz⟩))
noncomputable def fixO (h':Heap):RO→RO
 | .one x o=>.one x ((h'.get? x).getD o)
 | r=>r
theorem fix_at (h':Heap) (r:RO):(fixO h' r).at=r.at:=by induction r <;> rfl
theorem fix_ads (h':Heap) (R:List RO):ads (R.map (fixO h'))=ads R:=by
 unfold ads;rw [List.map_map];exact List.map_congr_left λr _=>fix_at h' r
theorem fix_fst (h':Heap) (r:RO):((fixO h' r).seg).map Prod.fst=r.seg.map Prod.fst:=by induction r <;> rfl
theorem fix_led (h':Heap) (R:List RO):(led (R.map (fixO h'))).map Prod.fst=(led R).map Prod.fst:=by
 induction R with
 | nil=>rfl
 | cons r R ih =>
  show ((fixO h' r).seg ++ led (R.map (fixO h'))).map Prod.fst=(r.seg ++ led R).map Prod.fst
  rw [List.map_append,List.map_append,ih,fix_fst]
theorem Rep.turn (hR:Rep P nm ca h₀ L X m h R H) {h':Heap} {fs:List Addr} (hfs:∀ x ∈ fs,x=L∨∃ d,ca.fr x=some d) (hS:(hideAll h fs).StaysIn h') (hU:h.UpToSlots h') (hL:L ∈ fs) :
  Rep P nm ca h₀ L X m h' (R.map (fixO h')) H:=by
 have hfr:∀ x d,ca.fr x=some d→Ex2 fun (i:Nat) (o:Obj)=>And3 (R[i]?=some (RO.one x o)) (H[i]?=some O.frame) ((Ex2 λes n=>o.data = .dict es n)):=by
  intro x d hx
  obtain ⟨i,o,h1,h2,h3⟩:=hR.hr.fr x d hx
  refine ⟨i,o,h1,h2,?_⟩
  have:=hR.hr.obj i _ _ h2 h1
  rcases this with ⟨y,e⟩ | ⟨y,o',e,hd,_⟩
  ·cases e
  ·cases e;exact hd
 have hin:∀ q ∈ led R ++ X,q.1 ∈ fs→Ex2 fun (i:Nat) (o:Obj)=>And3 (R[i]?=some (RO.one q.1 o)) (H[i]?=some O.frame) ((Ex2 λes n=>o.data = .dict es n)):=by
  intro q hq hm
  rcases hfs _ hm with e | ⟨d,hd⟩
  ·exact absurd e (hR.N q hq).2.1
  ·exact hfr _ d hd
 have hkeep:∀ q ∈ led R ++ X,q.1 ∉ fs→h'.get? q.1=some q.2:=λq hq hm=>hS _ _ (hideAll_get _ (hR.N q hq).1 hm)
 have hone:∀ (i:Nat) (x:Addr) (o:Obj),R[i]?=some (RO.one x o)→(x ∉ fs∧h'.get? x=some o)∨(H[i]?=some O.frame∧∃ o',h'.get? x=some o'∧o'.data=o.data):=by
  intro i x o hi
  have hq:=List.mem_append_left X (led_one hi)
  by_cases hm:x ∈ fs
  ·obtain ⟨j,o2,h1,h2,h3⟩:=hin _ hq hm
   have hij:j=i:=by
    rcases Nat.decEq j i with hne | e
    ·exact absurd rfl ((one_apart hR.nd hi).2 j _ h1 hne (x,o2) (.head _))
    ·exact e
   subst hij
   rw [hi] at h1
   cases h1
   obtain ⟨es,n,hd⟩:=h3
   obtain ⟨sl,hsl⟩:=hU _ _ (hR.N _ hq).1 (λvs q=>by rw [hd] at q;cases q)
   exact .inr ⟨h2,_,hsl,rfl⟩
  ·exact .inl ⟨hm,hkeep _ hq hm⟩
 have hb:∀ b o,h₀.get? b=some o→h'.get? b=some o:=by
  intro b o e
  refine hS _ _ (hideAll_get _ (hR.F.keep b o e) λhm=>?_)
  rcases hfs _ hm with q | ⟨d,hd⟩
  ·subst q
   exact absurd (Nat.lt_of_lt_of_le (Heap.lt_size e) hR.F.above) (Nat.lt_irrefl _)
  ·obtain ⟨i,o2,h1,_⟩:=hfr _ d hd
   have:=(hR.N _ (List.mem_append_left X (led_one h1))).2.2
   rw [e] at this;cases this
 refine ⟨⟨hU.ns hR.F.ns,hb,hR.F.above⟩,λq hq=>?_,?_,⟨by rw [List.length_map];exact hR.hr.len,λi o r h1 h2=>?_,λx d hx=>?_⟩⟩
 ·rcases List.mem_append.mp hq with hq | hq
  ·obtain ⟨r',hr',hqr⟩:=List.mem_flatMap.mp hq
   obtain ⟨r,hr,rfl⟩:=List.mem_map.mp hr'
   obtain ⟨i,hi⟩:=List.getElem?_of_mem hr
   cases r with
   | one x o =>
    have:q=(x,(h'.get? x).getD o):=by simpa [fixO,RO.seg] using hqr
    subst this
    have z:=hR.N _ (List.mem_append_left X (led_one hi))
    rcases hone i x o hi with ⟨_,e⟩ | ⟨_,o',e,_⟩
    ·exact ⟨by rw [e];rfl,z.2⟩
    ·exact ⟨by rw [e];rfl,z.2⟩
   | two x dx o od =>
    have hmem:q ∈ led R ++ X:=List.mem_append_left _ (List.mem_flatMap.mpr ⟨_,hr,hqr⟩)
    refine ⟨hkeep q hmem λhm=>?_,(hR.N q hmem).2⟩
    obtain ⟨j,o2,h1,h2,h3⟩:=hin q hmem hm
    refine (one_apart hR.nd h1).2 i _ hi (λe=>?_) q hqr rfl
    subst e
    rw [hi] at h1;cases h1
   | gone x=>cases hqr
  ·have hmem:q ∈ led R ++ X:=List.mem_append_right _ hq
   refine ⟨hkeep q hmem λhm=>?_,(hR.N q hmem).2⟩
   obtain ⟨j,o2,h1,h2,h3⟩:=hin q hmem hm
   exact (one_apart hR.nd h1).1 q hq rfl
 ·rw [List.map_append,fix_led,← List.map_append];exact hR.nd
 ·rw [fix_ads]
  rw [List.getElem?_map] at h2
  obtain ⟨r0,hr0,rfl⟩:=Option.map_eq_some_iff.mp h2
  have z:=hR.hr.obj i o r0 h1 hr0
  cases r0 with
  | one x o1 =>
   show OR P nm ca (ads R) o (.one x ((h'.get? x).getD o1))
   rcases hone i x o1 hr0 with ⟨_,e⟩ | ⟨hf,o',e,hd⟩
   ·rw [e];exact z
   ·rw [e]
    rw [h1] at hf
    cases hf
    rcases z with ⟨y,e'⟩ | ⟨y,o2,e',hdd,hc⟩
    ·cases e'
    ·cases e'
     exact .inr ⟨x,o',rfl,by rw [hd];exact hdd,by rw [hd];exact hc⟩
  | two x dx o1 od=>exact z
  | gone x=>exact z
 ·obtain ⟨i,o,h1,h2,h3⟩:=hR.hr.fr x d hx
  refine ⟨i,(h'.get? x).getD o,by rw [List.getElem?_map,h1];rfl,h2,?_⟩
  rcases hone i x o h1 with ⟨_,e⟩ | ⟨_,o',e,hd⟩
  ·rw [e];exact h3
  ·rw [e];exact hd.trans h3
end
section
variable {prog:Program} {w:World} {K:Frag} {p:Program} {loose:List Str} {mg mb:Str→Option Value} {A A':Around} {base h₀:Heap} {outer:List Env} {env:Env} {L:Addr} {d:Nat} {nm:Nat→Str} {ca:CA} {T:Tb}
theorem gnameA (C:Cx0 K p loose mg mb A h₀ env L) {x:Str} {v:Value} {pos:Pos} (hk:T.names=env.scope.names) (h:T.glb x=true) (hx:nsIn K mainGlobals x=some (some v))
  {s:Shared} {m:Str→Option Value} {Q:Value→Shared→Prop} {E:Value→Shared→Prop} (F:Fr h₀ L s.heap m) (q:Q v s):wpAny (model prog w) A' (eval (.Name x pos) env) Q E s:=by
 obtain ⟨h2,h3⟩:=glb_of h
 exact Name_function_global C.hk (by unfold Env.kindOf;rw [← hk];exact h2) (loadGlobal_global (by rw [C.hg];exact C.T.g.keeps F.keep) (mg_of C.X C.T.g hx) q) h3
theorem frames_ok (C:Cx prog w K p loose mg mb ca A h₀ outer env L d):∀ x ∈ (env :: outer).filterMap (·.frame),x=L∨∃ d,ca.fr x=some d:=by
 intro x hx
 obtain ⟨e,he,hf⟩:=List.mem_filterMap.mp hx
 rcases List.mem_cons.mp he with rfl | he
 ·rw [C.hf] at hf;exact .inl (Option.some.inj hf).symm
 ·obtain ⟨_,y,dd,h1,h2⟩:=C.fr e he
  rw [h1] at hf;cases hf
  exact .inr ⟨dd,h2⟩
theorem frame_in (C:Cx prog w K p loose mg mb ca A h₀ outer env L d):L ∈ (env :: outer).filterMap (·.frame):=List.mem_filterMap.mpr ⟨env,.head _,C.hf⟩
theorem caught_M (C:Cx prog w K p loose mg mb ca A h₀ outer env L d) (hT:T.names=env.scope.names) {c:Nat} {x:Str} (hx:T.glb x=true) (hc:ExcOk K x (ca c)) {h₂:Heap} {m:Str→Option Value} {R:List RO} {X:List (Addr × Obj)} {H:Hp} {s':Shared} {e:Addr}
  (hR:Rep w.params nm ca h₀ L X m h₂ R H) (RM:RaisedM h₂ (env :: outer) e (.ref (ca c)) s'.heap) {np pos:Pos} {b₀:Stmt} {suite:List Stmt} {Q:Flow→Shared→Prop}
  (k:∀ h' R',Rep w.params nm ca h₀ L X m h' R' H→ads R'=ads R→wpAny (model prog w) (A.mark (some (.ref e))) (execs (b₀ :: suite) env) Q (λ_ _=>False) { s' with heap:=h' }) :
  wpAny (model prog w) A (noteFrame (.ref e) env) (λ_ s₂=>wpAny (model prog w) A (setFlight (.ref e) none) (λ_ s₃ =>
   wpAny (model prog w) A (handleBy (.ref e) env [.ExceptHandler (some (.Name x np)) none (b₀ :: suite) pos]) Q (λ_ _=>False) s₃) (λ_ _=>False) s₂) (λ_ _=>False) s':=by
 obtain ⟨⟨t,hfl⟩,hsm⟩:=RM
 refine wpAny_looks_onW C.hA C.hf hfl λh₄ hheld₄ hsm₄=>?_
 refine wpAny_landsW hheld₄ λh₅ hheld hsm₅'=>?_
 have hsm₅:=hsm₄.trans hsm₅'
 have hR5:=hR.turn (frames_ok C) hheld.1 (hsm.trans hsm₅) (frame_in C)
 obtain ⟨ob,hob,hobc⟩:=hheld.there
 refine wpAny_handleBy_cons (codeAny_handlers_test (gnameA C.toCx0 hT hx hc.ex hR5.F ?_)) (by intro q;cases q)
 obtain ⟨bm,N,nm',qn,bs,hdct,sn,sub,ab,col,dd,k0,k1,k2,k3,k5,mN,hC,hN,hni,TL⟩:=((own_of_in C.X C.T hc.ex hc.q).keeps hR5.F.keep).obj
 refine wpAny_excMatches_sub_self hC hob hobc (TL.hasType (by decide)) (codeAny_handlers_suite ?_)
 refine lands_againW hheld λh₆ hfl₆ hsm₆=>?_
 have hR6:=hR.turn (frames_ok C) hfl₆.1 ((hsm.trans hsm₅).trans hsm₆) (frame_in C)
 exact wpAny_passesOwnAt PassesOwnAt.never (k h₆ _ hR6 (fix_ads _ _))
end
section
variable {prog:Program} {w:World} {K:Frag} {p:Program} {loose:List Str} {mg mb:Str→Option Value} {A A':Around} {base h₀:Heap} {outer:List Env} {env:Env} {L:Addr} {d n:Nat} {nm:Nat→Str} {ca:CA} {fa:Nat→Addr} {T:Tb} {call:CallF}
theorem s_varA (hk:env.scope.kind = .function) {x:Nat} {id:Str} {pos:Pos} (hT:T.names=env.scope.names) (h:T.loc x id=true) :
  SoundAt prog w nm ca A' h₀ L env T (λe H=>(look e x).map λv=>(v,H)) (eval (.Name id pos) env):=by
 obtain ⟨rfl,h2,h3⟩:=loc_of h
 intro e H v H' hv s m R X Q E hR hE k
 obtain ⟨v',hx,hv⟩:=Option.map_eq_some_iff.mp hv
 cases hv
 obtain ⟨m₂,hnf,hE⟩:=hE
 obtain ⟨u,hu,hr⟩:=(hE x _ hx).1 h2
 refine wpAny_Name (wpAny_loadName_local hk (by unfold Env.kindOf;rw [← hT];exact h2) (hR.names hnf) hu ?_) h3
 exact k s.heap s.toks R u hR (List.prefix_refl _) hr
theorem store_localA (hk:env.scope.kind = .function) (hl:env.locals=L) (hT:T.names=env.scope.names) (hOk:T.Ok) {x:Nat} {id:Str} (h:T.loc x id=true) {e:En} {H:Hp} {v:V} {u:Value} {s:Shared} {m:Str→Option Value} {R:List RO} {X:List (Addr × Obj)} {Q:Unit→Shared→Prop} {E:Value→Shared→Prop}
  (hR:Rep w.params nm ca h₀ L X m s.heap R H) (hE:EnvR T env.cells (ads R) m e) (hv:VR (ads R) v u)
  (k:∀ h' tk m',Rep w.params nm ca h₀ L X m' h' R H→EnvR T env.cells (ads R) m' (put e x v)→Q () { s with heap:=h',toks:=tk }):wpAny (model prog w) A' (storeName env id u) Q E s:=by
 obtain ⟨rfl,h2,h3⟩:=loc_of h
 subst hl
 refine wpAny_storeName_local (by unfold Env.kindOf;rw [← hT];exact h2) hR.F.ns (λh' hn hs=>?_) (by rw [hk];rfl)
 have hL₀:h₀.get? env.locals=none:=Heap.get?_none_of_le hR.F.above
 refine k h' _ _ ⟨⟨hn,λb o e=>hs.extBut b o (λq=>by rw [q,hL₀] at e;cases e) (hR.F.keep b o e),hR.F.above⟩,λq hq=>⟨hs.extBut _ _ (hR.N q hq).2.1 (hR.N q hq).1,(hR.N q hq).2⟩,hR.nd,hR.hr⟩ (hE.put hOk h2 hv)
structure HdlOk (prog:Program) (w:World) (nm:Nat→Str) (ca:CA) (h₀:Heap) (L:Addr) (env:Env) (T:Tb) (rh:En→Hp→SRes) (l:List Stmt):Prop where
 snd:∀ A',StmtAt prog w nm ca A' h₀ L env T rh (execs l env)
 calm:∀ e H c h',rh e H ≠ .exc c h'
theorem hdl_ret (hk:env.scope.kind = .function) (hl:env.locals=L) {x:Nat} {id:Str} {p1 p2 p3:Pos} (hT:T.names=env.scope.names) (h:T.loc x id=true) :
  HdlOk prog w nm ca h₀ L env T (λe H=>match (match (look e x).map λv=>(v,H) with
    | some (u,H)=>(truth H u).map λb=>(V.bool (!b),H)
    | _=>Option.none) with
   | some (v,h)=>.ret v h
   | _=>.bad) [.Return (some (.UnaryOp .Not (.Name id p1) p2)) p3]:=by
 refine ⟨λA'=>?_,λe H c h'=>by
  repeat' split
  all_goals exact λq=>nomatch q⟩
 intro e H s m R X Q E hR hE k
 refine wpAny_execs_cons (st_ret hl (s_not (s_varA hk hT h)) e H s m R X _ E hR hE ?_)
 revert k
 dsimp only
 cases look e x with
 | none=>exact λk=>k.elim
 | some v =>
  dsimp only [Option.map]
  cases truth H v with
  | none=>exact λk=>k.elim
  | some b=>exact λk=>k
theorem hdl_none (hk:env.scope.kind = .function) (hl:env.locals=L) {x:Nat} {id:Str} {k':Nat} {p1 p2 p3:Pos} (hT:T.names=env.scope.names) (hOk:T.Ok) (h:T.loc x id=true) :
  HdlOk prog w nm ca h₀ L env T (λe H=>.nx (put e x .none) H) [.Assign [.Name id p1] (.Constant .none k' p2) p3]:=by
 refine ⟨λA'=>?_,λe H c h' q=>nomatch q⟩
 intro e H s m R X Q E hR hE k
 refine wpAny_execs_cons (wpAny_Assign_Name ?_ rfl)
 rw [eval_Constant]
 show wpAny _ _ (pure Value.none) _ _ _
 refine wpAny_pure (store_localA hk hl hT hOk h hR hE (v:=.none) rfl λh' tk m' hR' hE'=>?_)
 exact wpAny_execs_nil (k h' tk m' R hR' (List.prefix_refl _) hE')
theorem st_tryA (C:Cx prog w K p loose mg mb ca A h₀ outer env L d) (hl:env.locals=L) (hT:T.names=env.scope.names) (hOk:T.Ok) (hc:CallOk prog w K p loose mg mb nm ca fa call n) (hd:n ≤ d) (hn:NmOk nm) {P:Prg} (hM:∀ c m f,P.meth c m=some f→MethOk K (ca c) (nm m) (fa f)) {M:Nat} (hN:M < 100)
  {ro:En→Hp→Option (V × Hp)} {rs:En→Hp→Option (List V × Hp)} {o:PySem.Expr} {l:List PySem.Expr} {apos cpos p1 p2 np hp pos:Pos} (hso:superLike o=false) (hst:∀ e ∈ l,starLike e=false) (hlen:l.length < 30) (hpos:(apos.endLine == cpos.line)=true)
  (ho:SoundAt prog w nm ca A h₀ L env T ro (eval o env)) (hs:SoundsAt prog w nm ca A h₀ L env T rs (spliced (backTo cpos (starEach l env))))
  {x:Nat} {id:Str} (hx:T.loc x id=true) {c:Nat} {cx:Str} (hcx:T.glb cx=true) (hce:ExcOk K cx (ca c)) {rh:En→Hp→SRes} {b₀:Stmt} {suite:List Stmt} (hh:HdlOk prog w nm ca h₀ L env T rh (b₀ :: suite)) :
  StmtAt prog w nm ca A h₀ L env T (λe H=>match ro e H with
   | some (u,h)=>match methOf P u M h with
    | some f=>match rs e h with
     | some (vs,h)=>tryRes (call f (u :: vs) h) e (λv h=>.nx (put e x v) h) c rh
     | _=>.bad
    | _=>.bad
   | _=>.bad) (exec (.Try [.Assign [.Name id p1] (.Call (.Attribute o (nm M) apos) l [] cpos) p2] [.ExceptHandler (some (.Name cx np)) none (b₀ :: suite) hp] [] [] pos) env):=by
 intro e H s m R X Q E hR hE k
 dsimp only at k
 obtain ⟨u,H1,h1,k⟩:=invK k
 obtain ⟨f,hf,k⟩:=invKn k
 obtain ⟨us,H2,h2,kk⟩:=invKs k
 refine wpAny_noRaise (wpAny_Try_except (wpAny_execs_cons (wpAny_Assign_Name ?_ (swaps_no rfl _ _ _))))
 refine meth_core C hn hM hN hso hst hlen hpos ho hs h1 hf h2 hR (hE.toN hl) λh' tk R' a vs hR' e1 va vs'=>?_
 have hcall:=hc A h₀ outer env L (C.less hd) f (u :: us) H2 { s with heap:=h',toks:=tk } m R' X (a :: vs) hR' ⟨va,vs'⟩
 refine wpAny_call ?_
 unfold tryRes at kk
 cases hr:call f (u :: us) H2 with
 | val v2 H3 =>
  rw [hr] at kk hcall
  refine hcall _ λh2 tk2 R2 y hR2 e2 vy=>?_
  refine store_local C.toCx0 hl hT hOk hx hR2 (hE.mono (e1.trans e2)) vy λh3 tk3 m3 hR3 hE3=>?_
  exact wpAny_execs_nil (wpAny_execs_nil (kk h3 tk3 m3 R2 hR3 (e1.trans e2) hE3))
 | exc c' H3 =>
  rw [hr] at kk hcall
  dsimp only at kk
  split at kk
  ·rename_i hcc
   subst hcc
   refine hcall _ λh2 tk2 e2 R2 h₂ hR2 p2 hRM=>?_
   refine caught_M C hT hcx hce hR2 hRM λh4 R4 hR4 e4=>?_
   have e5:ads R <+: ads R4:=by rw [e4];exact e1.trans p2
   exact hh.snd _ e H3 { s with heap:=h4,toks:=tk2 } m R4 X Q _ hR4 (hE.mono e5) (Kont.later (kk.calm (hh.calm _ _)) e5)
  ·exact kk.elim
 | bad=>rw [hr] at kk;exact kk.elim
theorem st_tryE (C:Cx prog w K p loose mg mb ca A h₀ outer env L d) (hl:env.locals=L) (hT:T.names=env.scope.names) (hOk:T.Ok) (hc:CallOk prog w K p loose mg mb nm ca fa call n) (hd:n ≤ d) (hn:NmOk nm) {P:Prg} (hM:∀ c m f,P.meth c m=some f→MethOk K (ca c) (nm m) (fa f)) {M:Nat} (hN:M < 100)
  {ro:En→Hp→Option (V × Hp)} {rs:En→Hp→Option (List V × Hp)} {o:PySem.Expr} {l:List PySem.Expr} {apos cpos p2 np hp pos:Pos} (hso:superLike o=false) (hst:∀ e ∈ l,starLike e=false) (hlen:l.length < 30) (hpos:(apos.endLine == cpos.line)=true)
  (ho:SoundAt prog w nm ca A h₀ L env T ro (eval o env)) (hs:SoundsAt prog w nm ca A h₀ L env T rs (spliced (backTo cpos (starEach l env))))
  {c:Nat} {cx:Str} (hcx:T.glb cx=true) (hce:ExcOk K cx (ca c)) {rh:En→Hp→SRes} {b₀:Stmt} {suite:List Stmt} (hh:HdlOk prog w nm ca h₀ L env T rh (b₀ :: suite)) :
  StmtAt prog w nm ca A h₀ L env T (λe H=>match ro e H with
   | some (u,h)=>match methOf P u M h with
    | some f=>match rs e h with
     | some (vs,h)=>tryRes (call f (u :: vs) h) e (λv h=>match v with | .none=>.nx e h | _=>.bad) c rh
     | _=>.bad
    | _=>.bad
   | _=>.bad) (exec (.Try [.Expr (.Call (.Attribute o (nm M) apos) l [] cpos) p2] [.ExceptHandler (some (.Name cx np)) none (b₀ :: suite) hp] [] [] pos) env):=by
 intro e H s m R X Q E hR hE k
 dsimp only at k
 obtain ⟨u,H1,h1,k⟩:=invK k
 obtain ⟨f,hf,k⟩:=invKn k
 obtain ⟨us,H2,h2,kk⟩:=invKs k
 refine wpAny_noRaise (wpAny_Try_except (wpAny_execs_cons (wpAny_Expr ?_ (by unfold interactive;rw [C.hk];simp) (swaps_no rfl _ _ _))))
 refine meth_core C hn hM hN hso hst hlen hpos ho hs h1 hf h2 hR (hE.toN hl) λh' tk R' a vs hR' e1 va vs'=>?_
 have hcall:=hc A h₀ outer env L (C.less hd) f (u :: us) H2 { s with heap:=h',toks:=tk } m R' X (a :: vs) hR' ⟨va,vs'⟩
 refine wpAny_call ?_
 unfold tryRes at kk
 cases hr:call f (u :: us) H2 with
 | val v2 H3 =>
  rw [hr] at kk hcall
  refine hcall _ λh2 tk2 R2 y hR2 e2 vy=>?_
  induction v2 <;> first | exact kk.elim | skip
  cases vy
  exact wpAny_execs_nil (wpAny_execs_nil (kk h2 tk2 m R2 hR2 (e1.trans e2) (hE.mono (e1.trans e2))))
 | exc c' H3 =>
  rw [hr] at kk hcall
  dsimp only at kk
  split at kk
  ·rename_i hcc
   subst hcc
   refine hcall _ λh2 tk2 e2 R2 h₂ hR2 p2 hRM=>?_
   refine caught_M C hT hcx hce hR2 hRM λh4 R4 hR4 e4=>?_
   have e5:ads R <+: ads R4:=by rw [e4];exact e1.trans p2
   exact hh.snd _ e H3 { s with heap:=h4,toks:=tk2 } m R4 X Q _ hR4 (hE.mono e5) (Kont.later (kk.calm (hh.calm _ _)) e5)
  ·exact kk.elim
 | bad=>rw [hr] at kk;exact kk.elim
end
theorem fm_congr {α β:Type} {f g:α→Option β}:∀ {l:List α},(∀ x ∈ l,f x=g x)→l.filterMap f=l.filterMap g
 | [],_=>rfl
 | x :: l,h=>by rw [List.filterMap_cons,List.filterMap_cons,h x (.head _),fm_congr λy hy=>h y (.tail _ hy)]
theorem zip_lookup_self {α:Type}:∀ (ns:List Str) (us:List α),ns.Nodup→us.length=ns.length→(ns.filterMap λn=>((ns.zip us).lookup n).map (n,·))=ns.zip us
 | [],[],_,_=>rfl
 | n :: ns,u :: us,nd,hl=>by
  rw [List.nodup_cons] at nd
  have ih:=zip_lookup_self ns us nd.2 (by exact Nat.succ.inj hl)
  rw [List.filterMap_cons]
  have e1:(((n :: ns).zip (u :: us)).lookup n)=some u:=by simp [List.zip_cons_cons,List.lookup_cons]
  rw [e1]
  show (n,u) :: _=(n,u) :: _
  refine congrArg (List.cons (n,u)) (Eq.trans (fm_congr λy hy=>?_) ih)
  have:y ≠ n:=λq=>nd.1 (q ▸ hy)
  rw [List.zip_cons_cons,List.lookup_cons,show (y == n)=false from beq_eq_false_iff_ne.mpr this]
theorem sem_bind {α β:Type} (a:α) (f:α→Sem β):(pure a >>= f)=f a:=rfl
theorem seq_none:seqItems? Value.none=pure none:=rfl
theorem bind_plain {fd:FuncData} {us:List Value} {ns:List Str} (hp:fd.params.posonlyargs = []) (ha:fd.params.args.map (·.arg)=ns) (hv:fd.params.vararg=none) (hk:fd.params.kwonlyargs = []) (hkw:fd.params.kwarg=none) (hd:fd.defaults = .none)
  (nd:ns.Nodup) (hl:us.length=ns.length):bindArgs fd ⟨us,[]⟩=pure (ns.zip us):=by
 have hmiss:(ns.filter λn=>((ns.zip us).lookup n).isNone) = []:=by
  rw [List.filter_eq_nil_iff]
  intro y hy
  have:∃ v,(y,v) ∈ ns.filterMap λn=>((ns.zip us).lookup n).map (n,·):=by
   rw [zip_lookup_self ns us nd hl]
   obtain ⟨i,hi⟩:=List.getElem?_of_mem hy
   have hlt:=(List.getElem?_eq_some_iff.mp hi).1
   have:(ns.zip us)[i]?=some (y,us[i]'(by lia)):=by
    rw [List.getElem?_zip_eq_some]
    exact ⟨hi,by simp [hl,hlt]⟩
   exact ⟨_,List.mem_of_getElem? this⟩
  obtain ⟨v0,this⟩:=this
  obtain ⟨z,_,hz⟩:=List.mem_filterMap.mp this
  obtain ⟨v,hv,e⟩:=Option.map_eq_some_iff.mp hz
  cases e
  rw [hv];simp
 obtain ⟨_,_,⟨pp,aa,vv,kk,_,kw,_⟩,_,_,_,_,df,_,_,_,_,_,_,_⟩:=fd
 dsimp only at hp ha hv hk hkw hd
 subst hp hv hk hkw hd ha
 dsimp only [bindArgs,List.map_nil,List.nil_append,List.append_nil,List.forIn_nil,sem_bind,seq_none,Option.getD_none,List.length_nil,Option.isNone_none]
 refine (if_neg λq=>absurd (of_decide_eq_true (Bool.and_eq_true_iff.mp q).1) (by rw [hl];exact Nat.lt_irrefl _)).trans ((if_neg λq=>?_).trans ?_)
 ·rw [List.drop_nil] at q
  replace q:(!(List.filter (λn=>(List.lookup n ((aa.map (·.arg)).zip us)).isNone) (List.take (aa.map (·.arg)).length (aa.map (·.arg)))).isEmpty)=true:=q
  rw [List.take_length,hmiss] at q
  cases q
 ·rw [List.drop_nil,List.zip_nil_right]
  show (pure (List.filterMap (λn=>(((aa.map Arg.arg).zip us).lookup n).map (n,·)) (aa.map Arg.arg ++ [])):Sem (List (Str × Value)))=_
  rw [List.append_nil,zip_lookup_self _ us nd hl]
theorem bindL_skip {k:Str→Option NameKind} {y:Str}:∀ (l:List (Str × Value)) (m:Str→Option Value),(∀ q ∈ l,q.1 ≠ y)→bindL k l m y=m y
 | [],_,_=>rfl
 | (n,v) :: l,m,h=>by
  have hn:y ≠ n:=λq=>h (n,v) (.head _) q.symm
  unfold bindL
  rw [bindL_skip l _ λq hq=>h q (.tail _ hq)]
  split
  ·exact if_neg hn
  ·rfl
theorem bindC_skip {k:Str→Option NameKind} {y:Str}:∀ (l:List (Str × Value)) (m:Str→Option Value),(∀ q ∈ l,q.1 ≠ y)→bindC k l m y=m y
 | [],_,_=>rfl
 | (n,v) :: l,m,h=>by
  have hn:y ≠ n:=λq=>h (n,v) (.head _) q.symm
  unfold bindC
  rw [bindC_skip l _ λq hq=>h q (.tail _ hq)]
  split
  ·rfl
  ·exact if_neg hn
theorem zip_fst {ns:List Str} {us:List Value} {q:Str × Value} (h:q ∈ ns.zip us):q.1 ∈ ns:=(List.of_mem_zip h).1
theorem bindL_at {k:Str→Option NameKind} {y:Str} {u:Value} (hk:k y=some .local):∀ (ns:List Str) (us:List Value) (m:Str→Option Value) (i:Nat),ns.Nodup→ns[i]?=some y→us[i]?=some u→bindL k (ns.zip us) m y=some u
 | n :: ns,v :: us,m,0,nd,h1,h2=>by
  cases h1;cases h2
  rw [List.nodup_cons] at nd
  show bindL k (ns.zip us) _ y=_
  rw [bindL_skip (y:=y) (ns.zip us) _ (λq hq (e:q.1=y)=>nd.1 (e ▸ zip_fst hq)),if_pos hk]
  exact if_pos rfl
 | n :: ns,v :: us,m,i + 1,nd,h1,h2=>by
  rw [List.nodup_cons] at nd
  exact bindL_at hk ns us _ i nd.2 (by simpa using h1) (by simpa using h2)
theorem bindC_at {k:Str→Option NameKind} {y:Str} {u:Value} (hk:k y=some .cell):∀ (ns:List Str) (us:List Value) (m:Str→Option Value) (i:Nat),ns.Nodup→ns[i]?=some y→us[i]?=some u→bindC k (ns.zip us) m y=some u
 | n :: ns,v :: us,m,0,nd,h1,h2=>by
  cases h1;cases h2
  rw [List.nodup_cons] at nd
  show bindC k (ns.zip us) _ y=_
  rw [bindC_skip (y:=y) (ns.zip us) _ (λq hq (e:q.1=y)=>nd.1 (e ▸ zip_fst hq)),if_neg (by rw [hk];exact λq=>nomatch q)]
  exact if_pos rfl
 | n :: ns,v :: us,m,i + 1,nd,h1,h2=>by
  rw [List.nodup_cons] at nd
  exact bindC_at hk ns us _ i nd.2 (by simpa using h1) (by simpa using h2)
section
variable {P:Params} {nm:Nat→Str} {ca:CA} {h₀ h:Heap} {L:Addr} {X:List (Addr × Obj)} {m:Str→Option Value} {R:List RO} {H:Hp}
theorem Rep.add (hR:Rep P nm ca h₀ L X m h R H) {x:Addr} {ob:Obj} {o:O} (hx:h.get? x=some ob) (hL:x ≠ L) (h0:h₀.get? x=none) (hne:∀ q ∈ led R ++ X,q.1 ≠ x) (ho:OR P nm ca (ads R ++ [x]) o (.one x ob)) :
  Rep P nm ca h₀ L X m h (R ++ [.one x ob]) (H ++ [o]):=by
 have e:led (R ++ [.one x ob]) ++ X=led R ++ (x,ob) :: X:=by rw [led_append];simp [led,RO.seg]
 refine ⟨hR.F,?_,?_,hR.hr.push ho⟩
 ·rw [e]
  intro p hp
  rcases List.mem_cons.mp ((perm_mid R _ X).mem_iff.mp hp) with rfl | hp
  ·exact ⟨hx,hL,h0⟩
  ·exact hR.N p hp
 ·rw [e,((perm_mid R _ X).map Prod.fst).nodup_iff]
  show (x :: (led R ++ X).map Prod.fst).Nodup
  refine List.nodup_cons.mpr ⟨λq=>?_,hR.nd⟩
  obtain ⟨y,hy,e⟩:=List.mem_map.mp q
  exact hne y hy e
end
noncomputable def CA.push (ca:CA) (L:Addr) (d:Data):CA:=⟨ca.cls,λx=>if x=L then some d else ca.fr x⟩
section
variable {P:Params} {nm:Nat→Str} {ca:CA} {h₀ h:Heap} {L:Addr} {X:List (Addr × Obj)} {m:Str→Option Value} {R:List RO} {H:Hp}
theorem OR.pushed {φ:List Addr} {d:Data} (hL:ca.fr L=none) {o:O} {r:RO} (h:OR P nm ca φ o r):OR P nm (ca.push L d) φ o r:=by
 cases o with
 | frame =>
  rcases h with h | ⟨x,o,a,b,c⟩
  ·exact .inl h
  ·refine .inr ⟨x,o,a,b,?_⟩
   show (if x=L then _ else _)=_
   rw [if_neg (λq=>by subst q;rw [hL] at c;cases c)]
   exact c
 | list l=>exact h
 | tuple l=>exact h
 | dict l=>exact h
 | inst c l=>exact h
 | cell v=>induction v <;> exact h
theorem Rep.enter (hR:Rep P nm ca h₀ L X m h R H) (hL:ca.fr L=none):∃ oL,And4 ((Ex2 λes n=>oL.data = .dict es n)) (NsOb oL m) ((∀ o:Obj,o.data=oL.data→NsOb o m)) (∀ (h₁:Heap) (L':Addr) (m':Str→Option Value),L'=h.objs.size→h₁.Ns L' m'→(∀ b o,h.get? b=some o→h₁.get? b=some o) →
   Rep P nm (ca.push L oL.data) h₀ L' X m' h₁ (R ++ [.one L oL]) (H ++ [.frame])∧(ca.push L oL.data).fr L'=none):=by
 obtain ⟨oL,es,ep,hget,hd,hk,hf⟩:=hR.F.ns
 have hns:∀ o:Obj,o.data=oL.data→NsOb o m:=λo e hh a ha=>⟨o,es,ep,ha,e.trans hd,hk,hf⟩
 refine ⟨oL,⟨es,ep,hd⟩,hns _ rfl,hns,λh₁ L' m' eL hn hkp=>?_⟩
 subst eL
 have hLlt:L < h.objs.size:=Heap.lt_size hget
 have h0L:h₀.get? L=none:=Heap.get?_none_of_le hR.F.above
 have e:led (R ++ [.one L oL]) ++ X=led R ++ (L,oL) :: X:=by rw [led_append];simp [led,RO.seg]
 have ea:ads (R ++ [.one L oL])=ads R ++ [L]:=by rw [ads_append];rfl
 refine ⟨⟨⟨hn,λb o q=>hkp b o (hR.F.keep b o q),Nat.le_trans hR.F.above (Nat.le_of_lt hLlt)⟩,?_,?_,⟨by simp [hR.hr.len],λi o r h1 h2=>?_,λx d hx=>?_⟩⟩,?_⟩
 ·rw [e]
  intro p hp
  rcases List.mem_cons.mp ((perm_mid R _ X).mem_iff.mp hp) with rfl | hp
  ·exact ⟨hkp _ _ hget,Nat.ne_of_lt hLlt,h0L⟩
  ·exact ⟨hkp _ _ (hR.N p hp).1,Nat.ne_of_lt (Heap.lt_size (hR.N p hp).1),(hR.N p hp).2.2⟩
 ·rw [e,((perm_mid R _ X).map Prod.fst).nodup_iff]
  show (L :: (led R ++ X).map Prod.fst).Nodup
  refine List.nodup_cons.mpr ⟨λq=>?_,hR.nd⟩
  obtain ⟨y,hy,e⟩:=List.mem_map.mp q
  exact (hR.N y hy).2.1 e
 ·rw [ea]
  by_cases hi:i < H.length
  ·rw [List.getElem?_append_left hi] at h1
   rw [List.getElem?_append_left (by rw [hR.hr.len];exact hi)] at h2
   exact ((hR.hr.obj i o r h1 h2).mono (List.prefix_append ..)).pushed hL
  ·have hlen:=hR.hr.len
   have:i=H.length:=by
    have:=(List.getElem?_eq_some_iff.mp h1).1
    simp at this;lia
   subst this
   rw [List.getElem?_append_right (Nat.le_refl _)] at h1
   rw [List.getElem?_append_right (by exact Nat.le_of_eq ‹_›)] at h2
   simp [hlen] at h1 h2
   subst h1 h2
   exact .inr ⟨L,oL,rfl,⟨es,ep,hd⟩,if_pos rfl⟩
 ·by_cases hxL:x=L
  ·subst hxL
   have:(ca.push x oL.data).fr x=some oL.data:=if_pos rfl
   rw [this] at hx;cases hx
   exact ⟨R.length,oL,by simp,by rw [hR.hr.len];simp,rfl⟩
  ·have:(ca.push L oL.data).fr x=ca.fr x:=if_neg hxL
   rw [this] at hx
   obtain ⟨i,o,h1,h2,h3⟩:=hR.hr.fr x d hx
   exact ⟨i,o,by rw [List.getElem?_append_left (List.getElem?_eq_some_iff.mp h1).1];exact h1,by rw [List.getElem?_append_left (List.getElem?_eq_some_iff.mp h2).1];exact h2,h3⟩
 ·have:(ca.push L oL.data).fr h.objs.size=ca.fr h.objs.size:=if_neg (Nat.ne_of_gt hLlt)
  rw [this]
  cases hq:ca.fr h.objs.size with
  | none=>rfl
  | some d =>
   obtain ⟨i,o,h1,_⟩:=hR.hr.fr _ d hq
   exact absurd (Heap.lt_size (hR.N _ (List.mem_append_left _ (led_one h1))).1) (Nat.lt_irrefl _)
theorem Rep.leave {L':Addr} {m':Str→Option Value} {h':Heap} {R':List RO} {H':Hp} {d:Data} (hR:Rep P nm (ca.push L d) h₀ L' X m' h' R' H') (hL:ca.fr L=none) (hns:∀ o:Obj,o.data=d→NsOb o m) (ha:h₀.objs.size ≤ L) :
  ∃ R'',And3 (Rep P nm ca h₀ L X m h' R'' H') (ads R''=ads R') (∀ q ∈ led R'' ++ X,q ∈ led R' ++ X):=by
 obtain ⟨i,o,h1,h2,h3⟩:=hR.hr.fr L d (if_pos rfl)
 have hget:=(hR.N _ (List.mem_append_left _ (led_one h1))).1
 have hap:=one_apart hR.nd h1
 obtain ⟨p,q,rfl,rfl⟩:=getElem?_split h1
 have es:(p ++ .one L o :: q).set p.length (.gone L)=p ++ .gone L :: q:=by simp
 have e1:led (p ++ .one L o :: q) ++ X=led p ++ (L,o) :: (led q ++ X):=by rw [led_append];simp [led,RO.seg]
 have e2:led (p ++ .gone L :: q) ++ X=led p ++ (led q ++ X):=by rw [led_append];simp [led,RO.seg]
 have hsub:∀ z ∈ led (p ++ .gone L :: q) ++ X,z ∈ led (p ++ .one L o :: q) ++ X:=by
  rw [e1,e2]
  intro z hz
  rcases List.mem_append.mp hz with hz | hz
  ·exact List.mem_append_left _ hz
  ·exact List.mem_append_right _ (.tail _ hz)
 have ea:ads (p ++ .gone L :: q)=ads (p ++ .one L o :: q):=by simp [ads,RO.at]
 have nd:=hR.nd
 rw [e1] at nd
 have ndd:=nodup_apart nd
 refine ⟨p ++ .gone L :: q,⟨⟨hns o h3 h' L hget,hR.F.keep,ha⟩,λz hz=>⟨(hR.N z (hsub z hz)).1,?_,(hR.N z (hsub z hz)).2.2⟩,?_,⟨?_,λj ob r g1 g2=>?_,λx dd hx=>?_⟩⟩,ea,hsub⟩
 ·rw [e2] at hz
  rcases List.mem_append.mp hz with hz | hz
  ·exact ndd.1 z hz
  ·exact ndd.2 z hz
 ·rw [e2]
  rw [List.map_append,List.map_cons] at nd
  rw [List.map_append]
  exact (List.nodup_cons.mp ((List.perm_middle.nodup_iff).mp nd)).2
 ·have:=hR.hr.len;simp at this ⊢;omega
 ·rw [ea]
  by_cases hj:j=p.length
  ·subst hj
   rw [h2] at g1
   cases g1
   have:r = .gone L:=by simpa using g2.symm
   exact .inl ⟨L,this⟩
  ·have g3:(p ++ .one L o :: q)[j]?=some r:=by
    rw [← es,List.getElem?_set_ne (λq=>hj q.symm)] at g2
    exact g2
   have z:=hR.hr.obj j ob r g1 g3
   cases ob with
   | frame =>
    rcases z with z | ⟨x,o2,a,b,c⟩
    ·exact .inl z
    ·refine .inr ⟨x,o2,a,b,?_⟩
     subst a
     have hx:x ≠ L:=hap.2 j _ g3 hj (x,o2) (.head _)
     have:(ca.push L d).fr x=ca.fr x:=if_neg hx
     rw [← this];exact c
   | list l=>exact z
   | tuple l=>exact z
   | dict l=>exact z
   | inst c l=>exact z
   | cell v=>induction v <;> exact z
 ·have hxL:x ≠ L:=λq=>by subst q;rw [hL] at hx;cases hx
  obtain ⟨j,o2,g1,g2,g3⟩:=hR.hr.fr x dd (by show (if x=L then _ else _)=_;rw [if_neg hxL];exact hx)
  have hj:j ≠ p.length:=λq=>by
   subst q
   rw [h1] at g1
   cases g1
   exact hxL rfl
  refine ⟨j,o2,?_,g2,g3⟩
  rw [← es,List.getElem?_set_ne (λq=>hj q.symm)]
  exact g1
end
theorem apart_mem {cs:List (Str × Addr)} (h:cs.Pairwise λx y=>x.2 ≠ y.2):∀ {a b:Str × Addr},a ∈ cs→b ∈ cs→a ≠ b→a.2 ≠ b.2:=by
 induction cs with
 | nil=>intro a b ha;cases ha
 | cons q cs ih =>
  rw [List.pairwise_cons] at h
  intro a b ha hb hab
  rcases List.mem_cons.mp ha with e | ha'
  ·rcases List.mem_cons.mp hb with e' | hb'
   ·exact absurd (e.trans e'.symm) hab
   ·rw [e];exact h.1 b hb'
  ·rcases List.mem_cons.mp hb with e' | hb'
   ·rw [e'];exact Ne.symm (h.1 a ha')
   ·exact ih h.2 ha' hb' hab
theorem mem_of_lookup {cs:List (Str × Addr)} {n:Str} {c:Addr} (h:cs.lookup n=some c):(n,c) ∈ cs:=by
 induction cs with
 | nil=>cases h
 | cons q cs ih =>
  obtain ⟨a,b⟩:=q
  rw [List.lookup_cons] at h
  split at h
  ·rename_i e
   have:=eq_of_beq e
   subst this
   cases h
   exact .head _
  ·exact .tail _ (ih h)
theorem look_put_ne {e:En} {x y:Nat} {v:V} (h:y ≠ x):look (put e x v) y=look e y:=by
 unfold look put
 rw [List.getElem?_set_ne (λq=>h q.symm)]
section
variable {P:Params} {nm:Nat→Str} {ca:CA} {h₀ h:Heap} {L:Addr} {X:List (Addr × Obj)} {m:Str→Option Value} {T:Tb} {cs:List (Str × Addr)}
theorem cells_in (cm:Str→Option Value):∀ (xs:List Nat) (e:En) (R:List RO) (H:Hp),xs.Nodup →
  (∀ x ∈ xs,Ex2 λc ob=>And7 (cs.lookup (T.sn x)=some c) (h.get? c=some ob) (ob.data = .cell (cm (T.sn x))) (c ≠ L) (h₀.get? c=none) ((∀ q ∈ led R ++ X,q.1 ≠ c)) ((match look e x with | some v=>∃ u,cm (T.sn x)=some u∧VR (ads R) v u | none=>cm (T.sn x)=none))) →
  (∀ x ∈ xs,∀ y ∈ xs,x ≠ y→∀ c,cs.lookup (T.sn x)=some c→cs.lookup (T.sn y) ≠ some c) →
  Rep P nm ca h₀ L X m h R H →
  ∃ R',And3 (Rep P nm ca h₀ L X m h R' (cellsIn xs e H).2) (ads R <+: ads R') (∀ y v,look (cellsIn xs e H).1 y=some v→(y ∈ xs→Ex2 λi a=>And3 (v = .ref i) ((ads R')[i]?=some a) (cs.lookup (T.sn y)=some a))∧(y ∉ xs→look e y=some v))
 | [],e,R,H,_,_,_,hR=>⟨R,hR,List.prefix_refl _,λy v hy=>⟨(λq=>nomatch q),λ_=>hy⟩⟩
 | x :: xs,e,R,H,nd,hx,hd,hR=>by
  rw [List.nodup_cons] at nd
  obtain ⟨c,ob,c1,c2,c3,c4,c5,c6,c7⟩:=hx x (.head _)
  have hR1:Rep P nm ca h₀ L X m h (R ++ [.one c ob]) (H ++ [.cell (look e x)]):=by
   refine hR.add c2 c4 c5 c6 ?_
   cases hl:look e x with
   | none=>rw [hl] at c7;exact ⟨c,ob,rfl,by rw [c3];exact congrArg _ c7⟩
   | some v=>rw [hl] at c7;obtain ⟨u,hu,hv⟩:=c7;exact ⟨c,ob,u,rfl,by rw [c3];exact congrArg _ hu,hv.mono (List.prefix_append ..)⟩
  have ea:ads (R ++ [.one c ob])=ads R ++ [c]:=by rw [ads_append];rfl
  have hp:ads R <+: ads (R ++ [.one c ob]):=by rw [ea];exact List.prefix_append ..
  obtain ⟨R',r1,r2,r3⟩:=cells_in cm xs (put e x (.ref H.length)) (R ++ [.one c ob]) (H ++ [.cell (look e x)]) nd.2 (λy hy=>by
   have hne:y ≠ x:=λq=>nd.1 (q ▸ hy)
   obtain ⟨d,od,d1,d2,d3,d4,d5,d6,d7⟩:=hx y (.tail _ hy)
   refine ⟨d,od,d1,d2,d3,d4,d5,λq hq=>?_,?_⟩
   ·have e1:led (R ++ [.one c ob]) ++ X=led R ++ (c,ob) :: X:=by rw [led_append];simp [led,RO.seg]
    rw [e1] at hq
    rcases List.mem_cons.mp ((perm_mid R _ X).mem_iff.mp hq) with rfl | hq
    ·exact λz=>hd x (.head _) y (.tail _ hy) (Ne.symm hne) c c1 (by rw [d1];exact congrArg some z.symm)
    ·exact d6 q hq
   ·rw [look_put_ne hne]
    cases hl:look e y with
    | none=>rw [hl] at d7;exact d7
    | some v=>rw [hl] at d7;obtain ⟨u,hu,hv⟩:=d7;exact ⟨u,hu,hv.mono hp⟩) (λa ha b hb=>hd a (.tail _ ha) b (.tail _ hb)) hR1
  refine ⟨R',r1,hp.trans r2,λy v hy=>?_⟩
  obtain ⟨y1,y2⟩:=r3 y v hy
  refine ⟨λhm=>?_,λhm=>?_⟩
  ·rcases List.mem_cons.mp hm with rfl | hm
   ·have:=y2 nd.1
    rcases look_put this with ⟨_,rfl⟩ | ⟨q,_⟩
    ·refine ⟨H.length,c,rfl,?_,c1⟩
     refine pre_get r2 ?_
     rw [ea,List.getElem?_append_right (by simp [ads,hR.hr.len])]
     simp [ads,hR.hr.len]
    ·exact absurd rfl q
   ·exact y1 hm
  ·have h1:y ∉ xs:=λq=>hm (.tail _ q)
   have h2:y ≠ x:=λq=>hm (q ▸ .head _)
   have:=y2 h1
   rw [look_put_ne h2] at this
   exact this
end
structure FnAt (prog:Program) (w:World) (K:Frag) (p:Program) (loose:List Str) (mg mb:Str→Option Value) (nm:Nat→Str) (cc:Nat→Addr) (fa:Nat→Addr) (P:Prg) (f:Nat) (D:FDef) (o:Obj) (fd:FuncData) (body:List Stmt) (T:Tb) (ns:List Str):Prop where
 look:K.lookup (fa f)=some o
 data:o.data = .func fd
 bdy:fd.body = .stmts body
 glob:fd.globals=mainGlobals
 bl:fd.builtins=builtinsNs
 clos:fd.closure = []
 code:codeIn K fd.code fd.qualname=true
 co:fd.scope.isCoroutine=false
 gen:fd.scope.isGenerator=false
 kind:fd.scope.kind = .function
 p1:fd.params.posonlyargs = []
 p2:fd.params.args.map (·.arg)=ns
 p3:fd.params.vararg=none
 p4:fd.params.kwonlyargs = []
 p5:fd.params.kwarg=none
 p6:fd.defaults = .none
 nd:ns.Nodup
 nl:ns.length=D.params
 tn:T.names=fd.scope.names
 tk:T.Ok
 ts:∀ i y,ns[i]?=some y→y=T.sn i
 kinds:∀ y ∈ ns,fd.scope.names.lookup y=some .local∨(fd.scope.names.lookup y=some .cell∧∃ x ∈ D.cells,T.sn x=y)
 cnd:D.cells.Nodup
 cs:∀ x ∈ D.cells,fd.scope.names.lookup (T.sn x)=some .cell∧∀ n,((cellsFrom n fd.scope.names []).lookup (T.sn x)).isSome=true
 snd:∀ (call:CallF) (n:Nat) (A:Around) (h₀:Heap) (outer:List Env) (env:Env) (L:Addr) (fr:Addr→Option Data),Cx prog w K p loose mg mb ⟨cc,fr⟩ A h₀ outer env L (n + 1)→env.scope=fd.scope→env.locals=L→env.cells=cellsFrom (L + 1) fd.scope.names [] →
  (∀ fr,CallOk prog w K p loose mg mb nm ⟨cc,fr⟩ fa call n)→StmtAt prog w nm ⟨cc,fr⟩ A h₀ L env T (λe H=>exs P call D.body e H) (execs body env)
noncomputable def FnOk (prog:Program) (w:World) (K:Frag) (p:Program) (loose:List Str) (mg mb:Str→Option Value) (nm:Nat→Str) (cc:Nat→Addr) (fa:Nat→Addr) (P:Prg) (f:Nat) (D:FDef):Prop :=
 Ex5 λo fd body T ns=>FnAt prog w K p loose mg mb nm cc fa P f D o fd body T ns
section
variable {prog:Program} {w:World} {K:Frag} {p:Program} {loose:List Str} {mg mb:Str→Option Value} {nm:Nat→Str} {cc fa:Nat→Addr} {P:Prg}
theorem look_args {vs:List V} {k i:Nat} {v:V} (h:look (vs.map some ++ List.replicate k none) i=some v):vs[i]?=some v:=by
 unfold look at h
 rw [List.getElem?_append] at h
 split at h
 ·rw [List.getElem?_map] at h
  cases hv:vs[i]? with
  | none=>rw [hv] at h;cases h
  | some u=>rw [hv] at h;exact h
 ·rename_i hi
  rw [List.getElem?_replicate] at h
  split at h <;> simp at h
theorem look_args' {vs:List V} {k i:Nat}:look (vs.map some ++ List.replicate k none) i=vs[i]?:=by
 unfold look
 rw [List.getElem?_append]
 split
 ·rw [List.getElem?_map]
  cases vs[i]? <;> rfl
 ·rename_i hi
  rw [List.getElem?_replicate]
  simp at hi
  rw [List.getElem?_eq_none hi]
  split <;> rfl
theorem flying_weak {h:Heap} {L':Addr} {fs:List Addr} {l:List Env} {e:Addr} {cls a0:Value} {h':Heap} (x:Heap.FlyingW (hideAll h (L' :: fs)) l e cls a0 h'):Heap.FlyingW (hideAll (hideAll h [L']) fs) l e cls a0 h':=x
theorem call_step (hfn:∀ f D,P.fn f=some D→FnOk prog w K p loose mg mb nm cc fa P f D) (call:CallF) (n:Nat) (ih:∀ fr,CallOk prog w K p loose mg mb nm ⟨cc,fr⟩ fa call n) (fr:Addr→Option Data) :
  CallOk prog w K p loose mg mb nm ⟨cc,fr⟩ fa (λf vs h=>match P.fn f with
   | some D=>runBody P call D vs h
   | Option.none=>.bad) (n + 2):=by
 intro A h₀ outer env L C f vs H s m R X us hR hv
 dsimp only
 cases hP:P.fn f with
 | none=>exact trivial
 | some D =>
  obtain ⟨o,fd,body,T,ns,Fn⟩:=hfn f D hP
  dsimp only
  unfold runBody
  by_cases hlen:vs.length=D.params
  ·rw [if_pos hlen]
   dsimp only
   have hul:us.length=ns.length:=by rw [← hv.length,hlen,Fn.nl]
   obtain ⟨oL,hdict,hnsL,hnsd,hent⟩:=hR.enter C.new
   have main:∀ (Rr:Result→Shared→Prop),
     (∀ (h₁:Heap) (tk:Nat) (e1:En) (m1:Str→Option Value) (R1:List RO) (H1:Hp) (env':Env),Rep w.params nm ((⟨cc,fr⟩:CA).push L oL.data) h₀ s.heap.objs.size X m1 h₁ R1 H1→ads R <+: ads R1→EnvR T env'.cells (ads R1) m1 e1 →
      (e1,H1)=cellsIn D.cells (vs.map some ++ List.replicate (D.size - D.params) Option.none) (H ++ [.frame]) →
      Cx prog w K p loose mg mb ((⟨cc,fr⟩:CA).push L oL.data) (A.deeper env') h₀ (env :: outer) env' s.heap.objs.size (n + 1)→env'.scope=fd.scope→env'.locals=s.heap.objs.size→env'.cells=cellsFrom (s.heap.objs.size + 1) fd.scope.names [] →
      wpAny (model prog w) (A.deeper env') (execs body env') (λf s'=>Rr (.ok (.ret (match f with | .ret v=>v | _=>.none))) s')
       (λe s'=>wpAny (model prog w) (A.deeper env') (leaving env' e) (λ_ s''=>Rr (.error e) s'') (λe' s''=>Rr (.error e') s'') s') { s with heap:=h₁,toks:=tk }) →
     codeAny (model prog w) A (.call (.ref (fa f)) ⟨us,[]⟩) Rr s:=by
    intro Rr hgo
    have hX:=C.X.keeps hR.F.keep
    refine codeAny_call_function (fd:=fd) (body:=body) (by have:=C.room;unfold recursionLimit;lia) (hX _ _ Fn.look) Fn.data Fn.co Fn.gen Fn.bdy (codeRec_of hX Fn.code) ?_
    rw [bind_plain Fn.p1 Fn.p2 Fn.p3 Fn.p4 Fn.p5 Fn.p6 Fn.nd hul]
    refine wpAny_pure ?_
    rw [Fn.clos]
    have hcn:∀ n,((cellsFrom n fd.scope.names []).map (·.1))=((cellsFrom 0 fd.scope.names []).map (·.1)):=λn=>cellsFrom_names fd.scope.names n 0 [] [] rfl
    refine wpAny_newFunctionEnv_cells Fn.kind (λq hq=>?_) λenv' he s' x=>?_
    ·rcases Fn.kinds q.1 (zip_fst hq) with hk | ⟨hk,x,hx,hxe⟩
     ·exact .inl hk
     ·exact .inr ⟨hk,by rw [← hxe];exact (Fn.cs x hx).2 _⟩
    ·have hkeep:=x.toInCall.keep
     obtain ⟨h₁,tk,rfl,_⟩:=x.done
     have el:env'.locals=s.heap.objs.size:=by rw [he];rfl
     have es:env'.scope=fd.scope:=by rw [he];rfl
     have ec:env'.cells=cellsFrom (s.heap.objs.size + 1) fd.scope.names []:=by rw [he];rfl
     have ek:∀ y,env'.kindOf y=fd.scope.names.lookup y:=λy=>by unfold Env.kindOf;rw [es]
     have hns:=x.toInCall.ns
     rw [el] at hns
     obtain ⟨hR1,hnew⟩:=hent h₁ s.heap.objs.size _ rfl hns hkeep
     have ea:ads (R ++ [.one L oL])=ads R ++ [L]:=by rw [ads_append];rfl
     have hp:ads R <+: ads (R ++ [.one L oL]):=by rw [ea];exact List.prefix_append ..
     have hcl:∀ q ∈ led (R ++ [.one L oL]) ++ X,q.1 < s.heap.objs.size:=by
      have e1:led (R ++ [.one L oL]) ++ X=led R ++ (L,oL) :: X:=by rw [led_append];simp [led,RO.seg]
      rw [e1]
      intro q hq
      rcases List.mem_cons.mp ((perm_mid R _ X).mem_iff.mp hq) with rfl | hq
      ·obtain ⟨o,es,ep,hget,_⟩:=hR.F.ns
       exact Heap.lt_size hget
      ·exact Heap.lt_size (hR.N q hq).1
     have hparam:∀ i v,vs[i]?=some v→∃ u,And3 (us[i]?=some u) (VR (ads R) v u) (ns[i]?=some (T.sn i)):=by
      intro i v hi
      obtain ⟨u,hu,hvr⟩:=hv.get hi
      have hlt:i < ns.length:=by rw [← hul];exact (List.getElem?_eq_some_iff.mp hu).1
      have hni:ns[i]?=some ns[i]:=by simp [hlt]
      exact ⟨u,hu,hvr,by rw [hni,← Fn.ts i _ hni]⟩
     obtain ⟨R2,r1,r2,r3⟩:=cells_in (T:=T) (cs:=env'.cells) (bindC env'.kindOf (ns.zip us) λ_=>none) D.cells (vs.map some ++ List.replicate (D.size - D.params) Option.none) (R ++ [.one L oL]) (H ++ [.frame]) Fn.cnd (λy hy=>by
      obtain ⟨hk,hs⟩:=Fn.cs y hy
      obtain ⟨c,hc⟩:=Option.isSome_iff_exists.mp (hs (s.heap.objs.size + 1))
      rw [← ec] at hc
      obtain ⟨ob,hob,hobd⟩:=x.cell _ c hc
      have hab:=x.above _ c (mem_of_lookup hc)
      rw [el] at hab
      refine ⟨c,ob,hc,hob,hobd,Nat.ne_of_gt hab,Heap.get?_none_of_le (Nat.le_trans hR1.F.above (Nat.le_of_lt hab)),λq hq=>Nat.ne_of_lt (Nat.lt_trans (hcl q hq) hab),?_⟩
      rw [look_args']
      cases hvy:vs[y]? with
      | some v =>
       obtain ⟨u,hu,hvr,hni⟩:=hparam y v hvy
       exact ⟨u,bindC_at (by rw [ek];exact hk) ns us _ y Fn.nd hni hu,hvr.mono hp⟩
      | none =>
       refine bindC_skip _ _ λq hq e=>?_
       obtain ⟨i,hi⟩:=List.getElem?_of_mem (zip_fst hq)
       rw [e] at hi
       have h1:=Fn.ts i _ hi
       have:=Fn.tk y i _ (by rw [Fn.tn];exact hk) h1
       subst this
       have hlt:=(List.getElem?_eq_some_iff.mp hi).1
       rw [Fn.nl,← hlen] at hlt
       rw [List.getElem?_eq_some_iff.mpr ⟨hlt,rfl⟩] at hvy
       cases hvy) (λa ha b hb hab c hca hcb=>by
      have h1:=mem_of_lookup hca
      have h2:=mem_of_lookup hcb
      have hne:T.sn a ≠ T.sn b:=λq=>hab (Fn.tk a b _ (by rw [Fn.tn];exact (Fn.cs a ha).1) q)
      exact apart_mem x.apart h1 h2 (λq=>hne (congrArg Prod.fst q)) rfl) hR1
     refine ⟨C.T.nolimit.keeps λb o q=>hkeep b o (hR.F.keep b o q),codeAny_func (hgo h₁ tk _ _ R2 _ env' r1 (hp.trans r2) ?_ rfl ?_ es el ec)⟩
     ·intro y v hy
      obtain ⟨y1,y2⟩:=r3 y v hy
      refine ⟨λhk=>?_,λhk=>?_⟩
      ·have hnc:y ∉ D.cells:=λq=>by
        have:=(Fn.cs y q).1
        rw [Fn.tn,this] at hk;cases hk
       have:=look_args (y2 hnc)
       obtain ⟨u,hu,hvr,hni⟩:=hparam y v this
       exact ⟨u,bindL_at (by rw [ek,← Fn.tn];exact hk) ns us _ y Fn.nd hni hu,hvr.mono (hp.trans r2)⟩
      ·by_cases hyc:y ∈ D.cells
       ·exact y1 hyc
       ·exfalso
        have:=look_args (y2 hyc)
        obtain ⟨u,hu,hvr,hni⟩:=hparam y v this
        rcases Fn.kinds _ (List.mem_of_getElem? hni) with hk' | ⟨hk',z,hz,hze⟩
        ·rw [Fn.tn,hk'] at hk;cases hk
        ·have:=Fn.tk z y .cell (by rw [hze,← hk',Fn.tn]) hze
         subst this
         exact hyc hz
     ·refine ⟨⟨by rw [es];exact Fn.kind,by rw [he];exact Fn.glob,by rw [he];exact Fn.bl,C.X,C.T,C.hh,?_⟩,λe he'=>?_,hnew,?_,by rw [he];rfl,?_,?_⟩
      ·show A.units + 3 < cLine
       have:=C.units;unfold cLine;lia
      ·rcases List.mem_cons.mp he' with rfl | he'
       ·exact ⟨by rw [C.hk];decide,L,oL.data,C.hf,if_pos rfl⟩
       ·obtain ⟨h1,y,d,h2,h3⟩:=C.fr e he'
        by_cases q:y=L
        ·exact ⟨h1,y,oL.data,h2,if_pos q⟩
        ·exact ⟨h1,y,d,h2,by show (if y=L then _ else _)=_;rw [if_neg q];exact h3⟩
      ·show A.frames.map (env' :: ·)=_
       rw [C.hA];rfl
      ·show A.depth + 1 + (n + 1) ≤ 900
       have:=C.room;lia
      ·show A.units + 3 + 20 * (n + 1) ≤ 8000
       have:=C.units;lia
   have abv:h₀.objs.size ≤ L:=hR.F.above
   cases hres:exs P call D.body (cellsIn D.cells (vs.map some ++ List.replicate (D.size - D.params) Option.none) (H ++ [.frame])).1 (cellsIn D.cells (vs.map some ++ List.replicate (D.size - D.params) Option.none) (H ++ [.frame])).2 with
   | bad=>exact trivial
   | brk e1 H1=>exact trivial
   | nx e1 H1 =>
    intro Rr k
    refine main Rr λh₁ tk e1 m1 R1 H1' env' hR1 hp hE1 heq hCx es el ec=>?_
    have h1:e1=_:=congrArg Prod.fst heq
    have h2:H1'=_:=congrArg Prod.snd heq
    subst h1 h2
    refine Fn.snd call n _ _ _ _ _ _ hCx es el ec ih _ _ _ m1 R1 X _ _ hR1 hE1 ?_
    dsimp only
    rw [hres]
    intro h' tk' m' R' hR' hp' hE'
    obtain ⟨R'',l1,l2,_⟩:=hR'.leave C.new hnsd abv
    exact k h' tk' R'' .none l1 (by rw [l2];exact hp.trans hp') rfl
   | ret v1 H1 =>
    intro Rr k
    refine main Rr λh₁ tk e1 m1 R1 H1' env' hR1 hp hE1 heq hCx es el ec=>?_
    have h1:e1=_:=congrArg Prod.fst heq
    have h2:H1'=_:=congrArg Prod.snd heq
    subst h1 h2
    refine Fn.snd call n _ _ _ _ _ _ hCx es el ec ih _ _ _ m1 R1 X _ _ hR1 hE1 ?_
    dsimp only
    rw [hres]
    intro h' tk' m' R' u hR' hp' hv'
    obtain ⟨R'',l1,l2,_⟩:=hR'.leave C.new hnsd abv
    exact k h' tk' R'' u l1 (by rw [l2];exact hp.trans hp') (by rw [l2];exact hv')
   | exc c H1 =>
    intro Rr k
    refine main Rr λh₁ tk e1 m1 R1 H1' env' hR1 hp hE1 heq hCx es el ec=>?_
    have h1:e1=_:=congrArg Prod.fst heq
    have h2:H1'=_:=congrArg Prod.snd heq
    subst h1 h2
    refine Fn.snd call n _ _ _ _ _ _ hCx es el ec ih _ _ _ m1 R1 X _ _ hR1 hE1 ?_
    dsimp only
    rw [hres]
    intro h' tk' m' R' h₂ ea hR' hp' hM
    obtain ⟨args,hM⟩:=hM
    have hin:=frame_in hCx
    have hoks:=frames_ok hCx
    have hff:∀ l:List Env,(∀ e ∈ l,e ∈ env' :: env :: outer)→h₂.FunFrames (hideAll h₂ ((env' :: env :: outer).filterMap (·.frame))) l:=by
     intro l
     induction l with
     | nil=>intro _;exact trivial
     | cons e l ihl =>
      intro hl
      refine ⟨?_,?_,ihl λz hz=>hl z (.tail _ hz)⟩
      ·rcases List.mem_cons.mp (hl e (.head _)) with rfl | he
       ·rw [hCx.hk];decide
       ·exact (hCx.fr e he).1
      ·rcases List.mem_cons.mp (hl e (.head _)) with rfl | he
       ·obtain ⟨oo,es',ep',hg,hd',_⟩:=hR'.F.ns
        exact ⟨_,oo,hCx.hf,hideAll_none _ hin,hg,λvs q=>by rw [hd'] at q;cases q⟩
       ·obtain ⟨_,y,d,hy,hd⟩:=hCx.fr e he
        obtain ⟨i,oo,g1,g2,g3⟩:=hR'.hr.fr y d hd
        have hor:=hR'.hr.obj i _ _ g2 g1
        rcases hor with ⟨z,q⟩ | ⟨z,o2,q,⟨es',n',hdd⟩,_⟩
        ·cases q
        ·cases q
         exact ⟨y,oo,hy,hideAll_none _ (List.mem_filterMap.mpr ⟨e,.tail _ he,hy⟩),(hR'.N _ (List.mem_append_left _ (led_one g1))).1,λvs q=>by rw [hdd] at q;cases q⟩
    refine wpAny_leaves_madeW hCx.hA hCx.hf (λb o q=>of_hideAll _ q) (hff _ λ_ z=>z) hM λh'' t x1 x2 x3 x4=>?_
    obtain ⟨R'',l1,l2,l3⟩:=hR'.leave C.new hnsd abv
    have hLne:s.heap.objs.size ≠ L:=λq=>by
     have:=hCx.new
     rw [q] at this
     have e2:((⟨cc,fr⟩:CA).push L oL.data).fr L=some oL.data:=if_pos rfl
     rw [e2] at this;cases this
    have hh2:Rep w.params nm ⟨cc,fr⟩ h₀ L X m (hideAll h₂ [s.heap.objs.size]) R'' H1:=by
     refine ⟨⟨?_,λb o q=>hideAll_get _ (l1.F.keep b o q) λhm=>?_,abv⟩,λq hq=>⟨hideAll_get _ (l1.N q hq).1 λhm=>?_,(l1.N q hq).2⟩,l1.nd,l1.hr⟩
     ·exact l1.F.ns.at' λo q=>hideAll_get _ q λhm=>hLne (List.mem_singleton.mp hm).symm
     ·rw [List.mem_singleton.mp hm] at q
      exact absurd (Nat.lt_of_lt_of_le (Heap.lt_size q) hR1.F.above) (Nat.lt_irrefl _)
     ·exact (hR'.N q (l3 q hq)).2.1 (List.mem_singleton.mp hm)
    refine k h'' tk' ea R'' _ hh2 (by rw [l2];exact hp.trans hp') ⟨⟨t,?_⟩,?_⟩
    ·have ef:(env' :: env :: outer).filterMap (·.frame)=s.heap.objs.size :: (env :: outer).filterMap (·.frame):=by
      rw [List.filterMap_cons,hCx.hf]
     rw [ef] at x1
     exact flying_weak x1
    ·intro b o q hn
     have q':=of_hideAll _ q
     obtain ⟨sl,hs⟩:=(Heap.UpToSlots.of_keeps hM.keeps) b o q' hn
     exact x4 b _ hs hn |>.imp λsl2 z=>z
  ·rw [if_neg hlen];exact trivial
theorem call_ok (hfn:∀ f D,P.fn f=some D→FnOk prog w K p loose mg mb nm cc fa P f D):∀ (n:Nat) (fr:Addr→Option Data),CallOk prog w K p loose mg mb nm ⟨cc,fr⟩ fa (run P n) (2 * n)
 | 0,fr=>by
  intro A h₀ outer env L C f vs H s m R X us hR hv
  exact trivial
 | n + 1,fr=>by
  have:=call_step hfn (run P n) (2 * n) (call_ok hfn n) fr
  have e:run P (n + 1)=(λf vs h=>match P.fn f with
   | some D=>runBody P (run P n) D vs h
   | Option.none=>.bad):=rfl
  rw [e]
  exact this
end
end Mine
end
section
open PySem
namespace Mine
structure VX where
 s:Str:=default
 p:Pos:=default
 x:PySem.Expr:=default
 z:PySem.Expr:=default
 l:List PySem.Expr:=[]
 c:Const:=.none
 n:Nat:=0
 bo:BoolOp:=.And
 op:Operator:=.Add
 un:UnaryOp:=.Not
 ops:List CmpOp:=[]
 ks:List Keyword:=[]
 keys:List (Option PySem.Expr):=[]
 gs:List Comprehension:=[]
 sc:Scope:=default
 o1:Option PySem.Expr:=none
 o2:Option PySem.Expr:=none
 o3:Option PySem.Expr:=none
noncomputable def vx0:VX:={}
noncomputable def vx (y:PySem.Expr):VX:=PySem.Expr.casesOn y (λo l p=>{ bo:=o,l:=l,p:=p }) (λ_ _ _=>vx0) (λx o z p=>{ x:=x,op:=o,z:=z,p:=p }) (λo x p=>{ un:=o,x:=x,p:=p }) (λ_ _ _ _=>vx0) (λ_ _ _ _=>vx0) (λks l p=>{ keys:=ks,l:=l,p:=p }) (λ_ _ _=>vx0) (λx gs sc p=>{ x:=x,gs:=gs,sc:=sc,p:=p }) (λ_ _ _ _=>vx0) (λ_ _ _ _ _=>vx0) (λ_ _ _ _=>vx0) (λ_ _=>vx0) (λ_ _=>vx0) (λ_ _=>vx0) (λx o l p=>{ x:=x,ops:=o,l:=l,p:=p }) (λx l ks p=>{ x:=x,l:=l,ks:=ks,p:=p }) (λ_ _ _ _=>vx0) (λ_ _=>vx0) (λc n p=>{ c:=c,n:=n,p:=p }) (λx s p=>{ x:=x,s:=s,p:=p }) (λx z p=>{ x:=x,z:=z,p:=p }) (λ_ _=>vx0) (λs p=>{ s:=s,p:=p }) (λl p=>{ l:=l,p:=p }) (λl n p=>{ l:=l,n:=n,p:=p }) (λa b c p=>{ o1:=a,o2:=b,o3:=c,p:=p })
noncomputable def tX (v:VX) (y:PySem.Expr):List PySem.Expr:=[.BoolOp v.bo v.l v.p,y,.BinOp v.x v.op v.z v.p,.UnaryOp v.un v.x v.p,y,y,.Dict v.keys v.l v.p,y,.ListComp v.x v.gs v.sc v.p,y,y,y,y,y,y,.Compare v.x v.ops v.l v.p,.Call v.x v.l v.ks v.p,y,y,.Constant v.c v.n v.p,.Attribute v.x v.s v.p,.Subscript v.x v.z v.p,y,.Name v.s v.p,.List v.l v.p,.Tuple v.l v.n v.p,.Slice v.o1 v.o2 v.o3 v.p]
theorem tX_is (y:PySem.Expr):(tX (vx y) y).getD y.ctorIdx y=y:=by induction y using PySem.Expr.casesOn <;> rfl
section
variable {y:PySem.Expr}
theorem is_BoolOp (h:y.ctorIdx=0):y = .BoolOp (vx y).bo (vx y).l (vx y).p:=(h ▸ tX_is y:(tX (vx y) y).getD 0 y=y).symm
theorem is_BinOp (h:y.ctorIdx=2):y = .BinOp (vx y).x (vx y).op (vx y).z (vx y).p:=(h ▸ tX_is y:(tX (vx y) y).getD 2 y=y).symm
theorem is_UnaryOp (h:y.ctorIdx=3):y = .UnaryOp (vx y).un (vx y).x (vx y).p:=(h ▸ tX_is y:(tX (vx y) y).getD 3 y=y).symm
theorem is_Dict (h:y.ctorIdx=6):y = .Dict (vx y).keys (vx y).l (vx y).p:=(h ▸ tX_is y:(tX (vx y) y).getD 6 y=y).symm
theorem is_ListComp (h:y.ctorIdx=8):y = .ListComp (vx y).x (vx y).gs (vx y).sc (vx y).p:=(h ▸ tX_is y:(tX (vx y) y).getD 8 y=y).symm
theorem is_Compare (h:y.ctorIdx=15):y = .Compare (vx y).x (vx y).ops (vx y).l (vx y).p:=(h ▸ tX_is y:(tX (vx y) y).getD 15 y=y).symm
theorem is_Call (h:y.ctorIdx=16):y = .Call (vx y).x (vx y).l (vx y).ks (vx y).p:=(h ▸ tX_is y:(tX (vx y) y).getD 16 y=y).symm
theorem is_Constant (h:y.ctorIdx=19):y = .Constant (vx y).c (vx y).n (vx y).p:=(h ▸ tX_is y:(tX (vx y) y).getD 19 y=y).symm
theorem is_Attribute (h:y.ctorIdx=20):y = .Attribute (vx y).x (vx y).s (vx y).p:=(h ▸ tX_is y:(tX (vx y) y).getD 20 y=y).symm
theorem is_Subscript (h:y.ctorIdx=21):y = .Subscript (vx y).x (vx y).z (vx y).p:=(h ▸ tX_is y:(tX (vx y) y).getD 21 y=y).symm
theorem is_Name (h:y.ctorIdx=23):y = .Name (vx y).s (vx y).p:=(h ▸ tX_is y:(tX (vx y) y).getD 23 y=y).symm
theorem is_List (h:y.ctorIdx=24):y = .List (vx y).l (vx y).p:=(h ▸ tX_is y:(tX (vx y) y).getD 24 y=y).symm
theorem is_Tuple (h:y.ctorIdx=25):y = .Tuple (vx y).l (vx y).n (vx y).p:=(h ▸ tX_is y:(tX (vx y) y).getD 25 y=y).symm
theorem is_Slice (h:y.ctorIdx=26):y = .Slice (vx y).o1 (vx y).o2 (vx y).o3 (vx y).p:=(h ▸ tX_is y:(tX (vx y) y).getD 26 y=y).symm
end
structure VS where
 x:PySem.Expr:=default
 z:PySem.Expr:=default
 l:List PySem.Expr:=[]
 op:Operator:=.Add
 o1:Option PySem.Expr:=none
 o2:Option PySem.Expr:=none
 b1:List Stmt:=[]
 b2:List Stmt:=[]
 b3:List Stmt:=[]
 hs:List ExceptHandler:=[]
 p:Pos:=default
noncomputable def vs0:VS:={}
noncomputable def vs (y:Stmt):VS:=Stmt.casesOn y (λ_ _ _ _ _ _ _ _ _ _=>vs0) (λ_ _ _ _ _ _ _ _ _ _=>vs0) (λ_ _ _ _ _ _ _ _ _ _ _=>vs0) (λo p=>{ o1:=o,p:=p }) (λl p=>{ l:=l,p:=p }) (λl x p=>{ l:=l,x:=x,p:=p }) (λ_ _ _ _ _ _ _=>vs0) (λx o z p=>{ x:=x,op:=o,z:=z,p:=p }) (λ_ _ _ _ _=>vs0) (λx z a b p=>{ x:=x,z:=z,b1:=a,b2:=b,p:=p }) (λ_ _ _ _ _=>vs0) (λx a b p=>{ x:=x,b1:=a,b2:=b,p:=p }) (λx a b p=>{ x:=x,b1:=a,b2:=b,p:=p }) (λ_ _ _=>vs0) (λ_ _ _=>vs0) (λ_ _ _=>vs0) (λa b p=>{ o1:=a,o2:=b,p:=p }) (λa hs b c p=>{ b1:=a,hs:=hs,b2:=b,b3:=c,p:=p }) (λ_ _ _ _ _=>vs0) (λ_ _ _=>vs0) (λ_ _=>vs0) (λ_ _ _ _=>vs0) (λ_ _=>vs0) (λ_ _=>vs0) (λx p=>{ x:=x,p:=p }) (λp=>{ p:=p }) (λp=>{ p:=p }) (λ_=>vs0)
noncomputable def tS (v:VS) (y:Stmt):List Stmt:=[y,y,y,.Return v.o1 v.p,.Delete v.l v.p,.Assign v.l v.x v.p,y,.AugAssign v.x v.op v.z v.p,y,.For v.x v.z v.b1 v.b2 v.p,y,.While v.x v.b1 v.b2 v.p,.If v.x v.b1 v.b2 v.p,y,y,y,.Raise v.o1 v.o2 v.p,.Try v.b1 v.hs v.b2 v.b3 v.p,y,y,y,y,y,y,.Expr v.x v.p,.Pass v.p,.Break v.p,y]
theorem tS_is (y:Stmt):(tS (vs y) y).getD y.ctorIdx y=y:=by induction y using PySem.Stmt.casesOn <;> rfl
section
variable {y:Stmt}
theorem is_Return (h:y.ctorIdx=3):y = .Return (vs y).o1 (vs y).p:=(h ▸ tS_is y:(tS (vs y) y).getD 3 y=y).symm
theorem is_Delete (h:y.ctorIdx=4):y = .Delete (vs y).l (vs y).p:=(h ▸ tS_is y:(tS (vs y) y).getD 4 y=y).symm
theorem is_Assign (h:y.ctorIdx=5):y = .Assign (vs y).l (vs y).x (vs y).p:=(h ▸ tS_is y:(tS (vs y) y).getD 5 y=y).symm
theorem is_AugAssign (h:y.ctorIdx=7):y = .AugAssign (vs y).x (vs y).op (vs y).z (vs y).p:=(h ▸ tS_is y:(tS (vs y) y).getD 7 y=y).symm
theorem is_For (h:y.ctorIdx=9):y = .For (vs y).x (vs y).z (vs y).b1 (vs y).b2 (vs y).p:=(h ▸ tS_is y:(tS (vs y) y).getD 9 y=y).symm
theorem is_While (h:y.ctorIdx=11):y = .While (vs y).x (vs y).b1 (vs y).b2 (vs y).p:=(h ▸ tS_is y:(tS (vs y) y).getD 11 y=y).symm
theorem is_If (h:y.ctorIdx=12):y = .If (vs y).x (vs y).b1 (vs y).b2 (vs y).p:=(h ▸ tS_is y:(tS (vs y) y).getD 12 y=y).symm
theorem is_Raise (h:y.ctorIdx=16):y = .Raise (vs y).o1 (vs y).o2 (vs y).p:=(h ▸ tS_is y:(tS (vs y) y).getD 16 y=y).symm
theorem is_Try (h:y.ctorIdx=17):y = .Try (vs y).b1 (vs y).hs (vs y).b2 (vs y).b3 (vs y).p:=(h ▸ tS_is y:(tS (vs y) y).getD 17 y=y).symm
theorem is_Expr (h:y.ctorIdx=24):y = .Expr (vs y).x (vs y).p:=(h ▸ tS_is y:(tS (vs y) y).getD 24 y=y).symm
theorem is_Pass (h:y.ctorIdx=25):y = .Pass (vs y).p:=(h ▸ tS_is y:(tS (vs y) y).getD 25 y=y).symm
theorem is_Break (h:y.ctorIdx=26):y = .Break (vs y).p:=(h ▸ tS_is y:(tS (vs y) y).getD 26 y=y).symm
end
theorem band {a b:Bool} (h:(a && b)=true):a=true∧b=true:=by induction a <;> induction b <;> first | exact ⟨rfl,rfl⟩ | cases h
theorem band3 {a b c:Bool} (h:(a && (b && c))=true):And3 (a=true) (b=true) (c=true):=by
 obtain ⟨h0,h⟩:=band h
 exact ⟨h0,(band h).1,(band h).2⟩
theorem band4 {a b c d:Bool} (h:(a && (b && (c && d)))=true):And4 (a=true) (b=true) (c=true) (d=true):=by
 obtain ⟨h0,h⟩:=band h
 obtain ⟨h1,h2,h3⟩:=band3 h
 exact ⟨h0,h1,h2,h3⟩
theorem band5 {a b c d e:Bool} (h:(a && (b && (c && (d && e))))=true):And5 (a=true) (b=true) (c=true) (d=true) (e=true):=by
 obtain ⟨h0,h⟩:=band h
 obtain ⟨h1,h2,h3,h4⟩:=band4 h
 exact ⟨h0,h1,h2,h3,h4⟩
theorem band6 {a b c d e f:Bool} (h:(a && (b && (c && (d && (e && f)))))=true):And6 (a=true) (b=true) (c=true) (d=true) (e=true) (f=true):=by
 obtain ⟨h0,h⟩:=band h
 obtain ⟨h1,h2,h3,h4,h5⟩:=band5 h
 exact ⟨h0,h1,h2,h3,h4,h5⟩
theorem band7 {a b c d e f g:Bool} (h:(a && (b && (c && (d && (e && (f && g))))))=true):And7 (a=true) (b=true) (c=true) (d=true) (e=true) (f=true) (g=true):=by
 obtain ⟨h0,h⟩:=band h
 obtain ⟨h1,h2,h3,h4,h5,h6⟩:=band6 h
 exact ⟨h0,h1,h2,h3,h4,h5,h6⟩
theorem band8 {a b c d e f g i:Bool} (h:(a && (b && (c && (d && (e && (f && (g && i)))))))=true):And8 (a=true) (b=true) (c=true) (d=true) (e=true) (f=true) (g=true) (i=true):=by
 obtain ⟨h0,h⟩:=band h
 obtain ⟨h1,h2,h3,h4,h5,h6,h7⟩:=band7 h
 exact ⟨h0,h1,h2,h3,h4,h5,h6,h7⟩
theorem bnot {a:Bool} (h:(!a)=true):a=false:=by induction a <;> first | rfl | cases h
theorem one_of {α:Type} [Inhabited α]:∀ {l:List α},(l.length == 1)=true→l = [l.headD default]
 | [_],_=>rfl
 | [],h=>nomatch h
 | _ :: _ :: _,h=>absurd (eq_of_beq h) (by simp)
theorem two_of {α:Type} [Inhabited α]:∀ {l:List α},(l.length == 2)=true→l = [l.headD default,l.tail.headD default]
 | [_,_],_=>rfl
 | [],h=>nomatch h
 | [_],h=>nomatch h
 | _ :: _ :: _ :: _,h=>absurd (eq_of_beq h) (by simp)
end Mine
end
section
open PySem PySem.W PyProof.Rows PySem.Calls
set_option maxRecDepth 100000
set_option maxHeartbeats 2000000
namespace Mine
noncomputable def bnames:List Str:=["len", "bytes", "max", "min", "sorted", "all", "range"]
structure KOk (K:Frag) (nm:Nat→Str) (cc fa:Nat→Addr) (P:Prg) (gi:Str→Option Int) (fn cl ex:Nat→Option Str):Prop where
 hnm:NmOk nm
 hfld:∀ c n,P.fld c n=true→FldOk K (cc c) (nm n)
 hmeth:∀ c m f,P.meth c m=some f→MethOk K (cc c) (nm m) (fa f)
 hgi:∀ x i,gi x=some i→∃ t,nsIn K mainGlobals x=some (some (.int i t))
 hfn:∀ f x,fn f=some x→nsIn K mainGlobals x=some (some (.ref (fa f)))∧keepIn K (.ref (fa f))=true
 hcl:∀ c x,cl c=some x→nsIn K mainGlobals x=some (some (.ref (cc c)))∧keepIn K (.ref (cc c))=true∧makesIn K (cc c)=true
 hinit1:∀ c x f,cl c=some x→P.init c=some (some f)→findIn K (.ref (cc c)) "__init__"=some (some (.ref (fa f)))∧isFn K (.ref (fa f))=true
 hinit0:∀ c x,cl c=some x→P.init c=some Option.none→findIn K (.ref (cc c)) "__init__"=some (some (.builtin "object.__init__"))
 hex:∀ c x,ex c=some x→ExcOk K x (cc c)
 hbn:∀ x ∈ bnames,nsIn K mainGlobals x=some none
noncomputable def bopIs (a:Bop) (b:Operator):Bool:=decide (b=bopOf a)
theorem bopIs_eq {a:Bop} {b:Operator} (h:bopIs a b=true):b=bopOf a:=of_decide_eq_true h
noncomputable def copIs (a:Cop) (b:CmpOp):Bool:=decide (b=copOf a)
theorem copIs_eq {a:Cop} {b:CmpOp} (h:copIs a b=true):b=copOf a:=of_decide_eq_true h
noncomputable def Tb.comp (T:Tb) (sx:Nat) (z:Str) (scope:Scope):Tb :=
 { T with names:=scope.names.map fun (n,k)=>if (k == .free && T.names.lookup n == some .cell) then (n,.cell) else (n,k),sn:=λy=>if y=sx then z else T.sn y,top:=false }
noncomputable def compOk (T:Tb) (sx:Nat) (cs:List Nat) (z:Str) (scope:Scope):Bool :=
 scope.kind == .function && scope.names.all (λq=>q.2 != .cell && (q.2 != .local || scope.names.lookup q.1 == some .local) && (q.2 != .free || T.names.lookup q.1 == some .cell)) && scope.names.lookup z == some .local &&
  cs.all λy=>y != sx && ((scope.names.lookup (T.sn y) == some .free && T.names.lookup (T.sn y) == some .cell) || scope.names.lookup (T.sn y) == Option.none)
noncomputable def isStarLess (l:List PySem.Expr):Bool:=l.all λx=>!starLike x
noncomputable def keyOk (nm:Nat→Str) (o:Option PySem.Expr) (n:Nat):Bool:=o.any λy=>y.ctorIdx == 19 && decide ((vx y).c = .str (nm n))
noncomputable def keysOk (nm:Nat→Str):List (Option PySem.Expr)→List Nat→Bool
 | [],[]=>true
 | o :: l,n :: r=>keyOk nm o n && keysOk nm l r
 | _,_=>false
theorem keysOk_eq {nm:Nat→Str}:∀ {l:List (Option PySem.Expr)} {ns:List Nat},keysOk nm l ns=true→∃ kn:List (Str × Nat × Pos),l=kn.map (λk=>some (.Constant (.str k.1) k.2.1 k.2.2))∧kn.map (·.1)=ns.map nm
 | [],[],_=>⟨[],rfl,rfl⟩
 | [],_ :: _,h=>nomatch h
 | _ :: _,[],h=>nomatch h
 | o :: l,n :: r,h=>by
  obtain ⟨h1,h2⟩:=band h
  obtain ⟨kn,rfl,e⟩:=keysOk_eq h2
  obtain ⟨y,rfl,h3⟩:=any_some h1
  obtain ⟨h4,h5⟩:=band h3
  refine ⟨(nm n,(vx y).n,(vx y).p) :: kn,?_,congrArg _ e⟩
  rw [List.map_cons,is_Constant (eq_of_beq h4),of_decide_eq_true h5]
  rfl
noncomputable def isC (y:PySem.Expr) (c:Const):Bool:=y.ctorIdx == 19 && decide ((vx y).c=c)
theorem isC_eq {y:PySem.Expr} {c:Const} (h:isC y c=true):y = .Constant c (vx y).n (vx y).p:=by
 obtain ⟨h1,h2⟩:=band h
 rw [← of_decide_eq_true h2];exact is_Constant (eq_of_beq h1)
noncomputable def isN (y:PySem.Expr):Bool:=y.ctorIdx == 23
theorem isN_eq {y:PySem.Expr} (h:isN y=true):y = .Name (vx y).s (vx y).p:=is_Name (eq_of_beq h)
noncomputable def isUo (y:PySem.Expr) (o:UnaryOp):Bool:=y.ctorIdx == 3 && decide ((vx y).un=o)
theorem isUo_eq {y:PySem.Expr} {o:UnaryOp} (h:isUo y o=true):y = .UnaryOp o (vx y).x (vx y).p:=by
 obtain ⟨h1,h2⟩:=band h
 rw [← of_decide_eq_true h2];exact is_UnaryOp (eq_of_beq h1)
noncomputable def isK (y:PySem.Expr):Bool:=y.ctorIdx == 15 && ((vx y).ops.length == 1 && (vx y).l.length == 1)
noncomputable def kOp (y:PySem.Expr):CmpOp:=(vx y).ops.headD default
noncomputable def kR (y:PySem.Expr):PySem.Expr:=(vx y).l.headD default
theorem isK_eq {y:PySem.Expr} (h:isK y=true):y = .Compare (vx y).x [kOp y] [kR y] (vx y).p:=by
 obtain ⟨h1,h2,h3⟩:=band3 h
 unfold kOp kR
 rw [← one_of h2,← one_of h3];exact is_Compare (eq_of_beq h1)
noncomputable def isCN (y:PySem.Expr):Bool:=y.ctorIdx == 16 && (isN (vx y).x && (vx y).ks.isEmpty)
noncomputable def cn (y:PySem.Expr):Str:=(vx (vx y).x).s
theorem isCN_eq {y:PySem.Expr} (h:isCN y=true):y = .Call (.Name (cn y) (vx (vx y).x).p) (vx y).l [] (vx y).p:=by
 obtain ⟨h1,h2,h3⟩:=band3 h
 unfold cn
 rw [← isN_eq h2,← List.isEmpty_iff.mp h3];exact is_Call (eq_of_beq h1)
noncomputable def isCA (y:PySem.Expr):Bool:=y.ctorIdx == 16 && ((vx y).x.ctorIdx == 20 && ((vx y).ks.isEmpty && (vx (vx y).x).p.endLine == (vx y).p.line))
noncomputable def cao (y:PySem.Expr):PySem.Expr:=(vx (vx y).x).x
noncomputable def cam (y:PySem.Expr):Str:=(vx (vx y).x).s
theorem isCA_eq {y:PySem.Expr} (h:isCA y=true):y = .Call (.Attribute (cao y) (cam y) (vx (vx y).x).p) (vx y).l [] (vx y).p∧(vx (vx y).x).p.endLine=(vx y).p.line:=by
 obtain ⟨h1,h2,h3,h4⟩:=band4 h
 refine ⟨?_,eq_of_beq h4⟩
 unfold cao cam
 rw [← is_Attribute (eq_of_beq h2),← List.isEmpty_iff.mp h3];exact is_Call (eq_of_beq h1)
noncomputable def isSub (y:PySem.Expr):Bool:=y.ctorIdx == 21
theorem isSub_eq {y:PySem.Expr} (h:isSub y=true):y = .Subscript (vx y).x (vx y).z (vx y).p:=is_Subscript (eq_of_beq h)
noncomputable def isLC (y:PySem.Expr):Bool:=y.ctorIdx == 8 && ((vx y).gs.length == 1 && (isN ((vx y).gs.headD default).target && (((vx y).gs.headD default).ifs.isEmpty && decide (((vx y).gs.headD default).is_async=0))))
noncomputable def lcG (y:PySem.Expr):Comprehension:=(vx y).gs.headD default
noncomputable def lcZ (y:PySem.Expr):Str:=(vx (lcG y).target).s
theorem comp_eta (g:Comprehension):g=⟨g.target,g.iter,g.ifs,g.is_async⟩:=by cases g;rfl
theorem isLC_eq {y:PySem.Expr} (h:isLC y=true):y = .ListComp (vx y).x [⟨.Name (lcZ y) (vx (lcG y).target).p,(lcG y).iter,[],0⟩] (vx y).sc (vx y).p:=by
 obtain ⟨h1,h2,h3,h4,h5⟩:=band5 h
 have e:lcG y=⟨.Name (lcZ y) (vx (lcG y).target).p,(lcG y).iter,[],0⟩:=by
  unfold lcZ
  rw [← isN_eq (show isN (lcG y).target=true from h3),← List.isEmpty_iff.mp (show (lcG y).ifs.isEmpty=true from h4),← (show (lcG y).is_async=0 from of_decide_eq_true h5)]
  exact comp_eta _
 rw [← e]
 unfold lcG
 rw [← one_of h2];exact is_ListComp (eq_of_beq h1)
noncomputable def hd (l:List PySem.Expr):PySem.Expr:=l.headD default
noncomputable def hd2 (l:List PySem.Expr):PySem.Expr:=l.tail.headD default
noncomputable def isB (y:PySem.Expr) (o:BoolOp):Bool:=y.ctorIdx == 0 && (decide ((vx y).bo=o) && Nat.blt 1 (vx y).l.length)
noncomputable def bRest (y:PySem.Expr) (o:BoolOp):PySem.Expr:=if (vx y).l.length == 2 then hd2 (vx y).l else .BoolOp o (vx y).l.tail (vx y).p
noncomputable def isB1 (y:PySem.Expr) (T:Tb) (x:Str):Bool:=isCN y && (T.glb (cn y) && (decide (cn y=x) && ((vx y).l.length == 1 && !starLike (hd (vx y).l))))
noncomputable def isB2 (y:PySem.Expr) (T:Tb) (x:Str):Bool:=isCN y && (T.glb (cn y) && (decide (cn y=x) && ((vx y).l.length == 2 && (!starLike (hd (vx y).l) && !starLike (hd2 (vx y).l)))))
noncomputable def isM1 (y:PySem.Expr) (x:Str):Bool:=isCA y && (decide (cam y=x) && (!superLike (cao y) && ((vx y).l.length == 1 && !starLike (hd (vx y).l))))
mutual
noncomputable def chkE:E→Tb→PySem.Expr→Bool
 | .var x,T,y=>isN y && T.loc x (vx y).s
 | .cvar x,T,y=>isN y && T.cel x (vx y).s
 | .int i,T,y=>isC y (.int i)
 | .gint _ i,T,y=>isN y && (T.glb (vx y).s && decide (T.gi (vx y).s=some i))
 | .neg i,T,y=>isUo y .USub && isC (vx y).x (.int i)
 | .none,T,y=>isC y .none
 | .bool b,T,y=>isC y (.bool b)
 | .bytes b,T,y=>isC y (.bytes b)
 | .bin op a b,T,y=>y.ctorIdx == 2 && (bopIs op (vx y).op && (chkE a T (vx y).x && chkE b T (vx y).z))
 | .cmp op a b,T,y=>isK y && (copIs op (kOp y) && (!behindInMarks (kOp y) (kR y) && (chkE a T (vx y).x && chkE b T (kR y))))
 | .isNone a,T,y=>isK y && (decide (kOp y = .Is) && (isC (kR y) .none && chkE a T (vx y).x))
 | .notNone a,T,y=>isK y && (decide (kOp y = .IsNot) && (isC (kR y) .none && chkE a T (vx y).x))
 | .isIn a b,T,y=>isK y && (decide (kOp y = .In) && (!behindInMarks .In (kR y) && (chkE a T (vx y).x && chkE b T (kR y))))
 | .not a,T,y=>isUo y .Not && chkE a T (vx y).x
 | .and a b,T,y=>isB y .And && (chkE a T (hd (vx y).l) && chkE b T (bRest y .And))
 | .or a b,T,y=>isB y .Or && (chkE a T (hd (vx y).l) && chkE b T (bRest y .Or))
 | .attr a n,T,y=>y.ctorIdx == 20 && (decide ((vx y).s=T.nm n) && (decide (n < 100) && (!superLike (vx y).x && chkE a T (vx y).x)))
 | .idx a i,T,y=>isSub y && (!sliceLike (vx y).z && (chkE a T (vx y).x && chkE i T (vx y).z))
 | .key a n,T,y=>isSub y && (isC (vx y).z (.str (T.nm n)) && (decide (n < 100) && chkE a T (vx y).x))
 | .sliceTo a b,T,y=>isSub y && ((vx y).z.ctorIdx == 26 && ((vx (vx y).z).o1.isNone && ((vx (vx y).z).o3.isNone && (chkE a T (vx y).x && ((vx (vx y).z).o2.isSome && chkE b T ((vx (vx y).z).o2.getD default))))))
 | .rev a,T,y=>isSub y && ((vx y).z.ctorIdx == 26 && ((vx (vx y).z).o1.isNone && ((vx (vx y).z).o2.isNone && ((vx (vx y).z).o3.isSome && (isUo ((vx (vx y).z).o3.getD default) .USub && (isC (vx ((vx (vx y).z).o3.getD default)).x (.int 1) && chkE a T (vx y).x))))))
 | .call f as,T,y=>isCN y && (T.glb (cn y) && (decide (T.fn f=some (cn y)) && (isStarLess (vx y).l && chkEs as T (vx y).l)))
 | .new c as,T,y=>isCN y && (T.top && (T.glb (cn y) && (decide (T.cl c=some (cn y)) && (isStarLess (vx y).l && chkEs as T (vx y).l))))
 | .meth o m as,T,y=>isCA y && (T.top && (decide (cam y=T.nm m) && (decide (m < 100) && (!superLike (cao y) && (isStarLess (vx y).l && (decide ((vx y).l.length < 30) && (chkE o T (cao y) && chkEs as T (vx y).l)))))))
 | .len a,T,y=>isB1 y T "len" && chkE a T (hd (vx y).l)
 | .bytesOf a,T,y=>isB1 y T "bytes" && chkE a T (hd (vx y).l)
 | .max a b,T,y=>isB2 y T "max" && (chkE a T (hd (vx y).l) && chkE b T (hd2 (vx y).l))
 | .min a b,T,y=>isB2 y T "min" && (chkE a T (hd (vx y).l) && chkE b T (hd2 (vx y).l))
 | .sortedKeys a,T,y=>isB1 y T "sorted" && chkE a T (hd (vx y).l)
 | .all a,T,y=>isB1 y T "all" && chkE a T (hd (vx y).l)
 | .append o a,T,y=>isM1 y "append" && (chkE o T (cao y) && chkE a T (hd (vx y).l))
 | .remove o a,T,y=>isM1 y "remove" && (chkE o T (cao y) && chkE a T (hd (vx y).l))
 | .index o a,T,y=>isM1 y "index" && (chkE o T (cao y) && chkE a T (hd (vx y).l))
 | .pop o,T,y=>isCA y && (decide (cam y = "pop") && (!superLike (cao y) && ((vx y).l.isEmpty && chkE o T (cao y))))
 | .list as,T,y=>y.ctorIdx == 24 && (decide ((vx y).l.length < 100) && (isStarLess (vx y).l && chkEs as T (vx y).l))
 | .tuple as,T,y=>y.ctorIdx == 25 && (decide ((vx y).l.length < 100) && (isStarLess (vx y).l && chkEs as T (vx y).l))
 | .dict ks as,T,y=>y.ctorIdx == 6 && (keysOk T.nm (vx y).keys ks && (decide (ks.length ≤ 15) && (decide ks.Nodup && (ks.all (· < 100) && (!ks.isEmpty && ((vx y).l.length == ks.length && chkEs as T (vx y).l))))))
 | .comp elt sx cs it,T,y=>isLC y && (T.top && (compOk T sx cs (lcZ y) (vx y).sc && (!setLike (lcG y).iter && (chkE it T (lcG y).iter && chkE elt (T.comp sx (lcZ y) (vx y).sc) (vx y).x))))
 | .compR _ _ _ _ _ _,_,_=>false
 | .bad,_,_=>true
noncomputable def chkEs:Es→Tb→List PySem.Expr→Bool
 | .nil,_,l=>l.isEmpty
 | .cons a as,T,l=>!l.isEmpty && (chkE a T (hd l) && chkEs as T l.tail)
end
section
variable {prog:Program} {w:World} {K:Frag} {p:Program} {loose:List Str} {mg mb:Str→Option Value} {A:Around} {h₀:Heap} {outer:List Env} {env:Env} {L:Addr} {d n:Nat} {nm:Nat→Str} {ca:CA} {fa:Nat→Addr} {T:Tb} {call:CallF}
theorem SoundAt.congr {r r':En→Hp→Option (V × Hp)} {t:Sem Value} (h:SoundAt prog w nm ca A h₀ L env T r t) (e:∀ s H,r' s H=r s H):SoundAt prog w nm ca A h₀ L env T r' t :=
 λs H v H' hv=>h s H v H' (by rw [← e];exact hv)
theorem TestAt.congr {r r':En→Hp→Option (Bool × Hp)} {t:Sem Bool} (h:TestAt prog w nm ca A h₀ L env T r t) (e:∀ s H,r' s H=r s H):TestAt prog w nm ca A h₀ L env T r' t :=
 λs H v H' hv=>h s H v H' (by rw [← e];exact hv)
theorem b_more {ra rb:En→Hp→Option (V × Hp)} {x:PySem.Expr} {t:Sem Value} {ts:List (Sem Value)} {pos:Pos} (op:PySem.BoolOp) (ha:SoundAt prog w nm ca A h₀ L env T ra (eval x env)) (hb:SoundAt prog w nm ca A h₀ L env T rb (boolOp pos op (t :: ts))) :
  SoundAt prog w nm ca A h₀ L env T (λe H=>match ra e H with
   | some (u,H)=>match truth H u with
    | some true=>(match op with | .And=>rb e H | .Or=>some (u,H))
    | some false=>(match op with | .And=>some (u,H) | .Or=>rb e H)
    | Option.none=>Option.none
   | _=>Option.none) (boolOp pos op (eval x env :: t :: ts)):=by
 intro e H v H' hv s m R X Q E hR hE k
 dsimp only at hv
 cases h1:ra e H with
 | none=>rw [h1] at hv;cases hv
 | some q1 =>
  obtain ⟨u,H1⟩:=q1
  rw [h1] at hv
  dsimp only at hv
  show wpAny _ _ (eval x env >>= λv=>standAt pos >>= λ_=>holding [v] (truthy v) >>= λt'=>match op,t' with
   | .And,false | .Or,true=>pure v
   | _,_=>boolOp pos op (t :: ts)) _ _ _
  refine wpAny_bind (ha e H u H1 h1 s m R X _ _ hR hE λh' tk R' a hR' e1 va=>wpAny_bind (wpAny_standAt (wpAny_bind (wpAny_holding ?_))))
  cases ht:truth H1 u with
  | none=>rw [ht] at hv;cases hv
  | some b =>
   rw [ht] at hv
   refine h_truth (s:={ s with heap:=h',toks:=tk }) ht hR' va λtk'=>?_
   have go:rb e H1=some (v,H')→wpAny (model prog w) A (boolOp pos op (t :: ts)) Q E { s with heap:=h',toks:=tk' }:=λq =>
    hb e H1 v H' q _ m R' X _ _ hR' (hE.mono e1) λh2 tk2 R2 y hR2 e2 vy=>k h2 tk2 R2 y hR2 (e1.trans e2) vy
   have stay:some (u,H1)=some (v,H')→wpAny (model prog w) A (pure a) Q E { s with heap:=h',toks:=tk' }:=λq=>by
    cases q;exact wpAny_pure (k h' tk' R' a hR' e1 va)
   induction b <;> induction op <;> first | exact go hv | exact stay hv
theorem starLess_of {l:List PySem.Expr} (h:isStarLess l=true):∀ e ∈ l,starLike e=false:=λe he=>by
 have:=List.all_eq_true.mp h e he
 simpa using this
theorem none_eq {φ:List Addr} {u:V} {a:Value} (va:VR φ u a):(a == Value.none)=(u == V.none):=by
 induction u <;> first | (cases va;rfl) | (obtain ⟨t,rfl⟩:=va;rfl) | (obtain ⟨a,_,rfl⟩:=va;rfl)
theorem t_isNone {ra:En→Hp→Option (V × Hp)} {x:PySem.Expr} {k:Nat} {pos pos':Pos} {whole:Sem Value} (ha:SoundAt prog w nm ca A h₀ L env T ra (eval x env)) :
  TestAt prog w nm ca A h₀ L env T (λe H=>match ra e H with
   | some (u,H)=>some (u == .none,H)
   | _=>Option.none) (isTrue (.Compare x [.Is] [.Constant .none k pos'] pos) env whole):=by
 intro e H b H' hv s m R X Q E hR hE q
 dsimp only at hv
 obtain ⟨u,H1,h1,hv⟩:=invV hv
 cases hv
 refine wpAny_isTrue_Compare1 (ha e H u _ h1 s m R X _ _ hR hE λh' tk R' a hR' e1 va=>?_) rfl
 rw [eval_Constant]
 show wpAny _ _ (pure Value.none) _ _ _
 refine wpAny_pure (is_none (wpAny_truthy_bool ?_))
 rw [none_eq va]
 exact q h' tk R' hR' e1
theorem t_notNone {ra:En→Hp→Option (V × Hp)} {x:PySem.Expr} {k:Nat} {pos pos':Pos} {whole:Sem Value} (ha:SoundAt prog w nm ca A h₀ L env T ra (eval x env)) :
  TestAt prog w nm ca A h₀ L env T (λe H=>match ra e H with
   | some (u,H)=>some (u != .none,H)
   | _=>Option.none) (isTrue (.Compare x [.IsNot] [.Constant .none k pos'] pos) env whole):=by
 intro e H b H' hv s m R X Q E hR hE q
 dsimp only at hv
 obtain ⟨u,H1,h1,hv⟩:=invV hv
 cases hv
 refine wpAny_isTrue_Compare1 (ha e H u _ h1 s m R X _ _ hR hE λh' tk R' a hR' e1 va=>?_) rfl
 rw [eval_Constant]
 show wpAny _ _ (pure Value.none) _ _ _
 refine wpAny_pure (isnot_none_gen (wpAny_truthy_bool ?_))
 rw [none_eq va]
 exact q h' tk R' hR' e1
theorem h_isIn (u v:V) (H:Hp) (r:V) (H':Hp) (h:isInF u v H=some (r,H')) (s:Shared) (m:Str→Option Value) (R:List RO) (X:List (Addr × Obj)) (a b:Value) (Q:Value→Shared→Prop) (E:Value→Shared→Prop)
  (hR:Rep w.params nm ca h₀ L X m s.heap R H) (hva:VR (ads R) u a) (hvb:VR (ads R) v b)
  (k:∀ h' tk R' y,Rep w.params nm ca h₀ L X m h' R' H'→ads R <+: ads R'→VR (ads R') r y→Q y { s with heap:=h',toks:=tk }):wpAny (model prog w) A (compareOp .In a b) Q E s:=by
 unfold isInF at h
 split at h
 ·split at h
  ·rename_i l hl
   split at h
   ·obtain ⟨ns,hns,e⟩:=Option.map_eq_some_iff.mp h
    cases e
    obtain ⟨t,rfl⟩:=hva
    obtain ⟨x,vs,n,rfl,e1,hvs,L1⟩:=hR.getList hl hvb
    refine in_list_ints L1 (ints_are hvs hns) (k s.heap _ R _ hR (List.prefix_refl _) ?_)
    exact congrArg Value.bool (contains_any _ ns)
   ·cases h
  ·cases h
 ·cases h
theorem t_isIn {ra rb:En→Hp→Option (V × Hp)} {l r:PySem.Expr} {pos:Pos} {whole:Sem Value} (ha:SoundAt prog w nm ca A h₀ L env T ra (eval l env)) (hb:SoundAt prog w nm ca A h₀ L env T rb (eval r env))
  (hm:behindInMarks .In r=false) :
  TestAt prog w nm ca A h₀ L env T (λe H=>match ra e H with
   | some (u,H)=>match rb e H with
    | some (v,H)=>(isInF u v H).bind λq=>(truth q.2 q.1).map λb=>(b,q.2)
    | _=>Option.none
   | _=>Option.none) (isTrue (.Compare l [.In] [r] pos) env whole):=by
 intro e H b H' hv s m R X Q E hR hE k
 dsimp only at hv
 obtain ⟨u,H1,h1,hv⟩:=invV hv
 obtain ⟨v,H2,h2,hv⟩:=invV hv
 obtain ⟨⟨y,H3⟩,hy,hv⟩:=Option.bind_eq_some_iff.mp hv
 obtain ⟨b',hb',e'⟩:=Option.map_eq_some_iff.mp hv
 obtain ⟨rfl,rfl⟩:b'=b∧H3=H':=Prod.mk.inj e'
 refine wpAny_isTrue_Compare1 (ha e H u H1 h1 s m R X _ _ hR hE λh' tk R' a hR' e1 va=>?_) hm
 refine hb e H1 v H2 h2 _ m R' X _ _ hR' (hE.mono e1) λh3 tk3 R3 c hR3 e3 vc=>?_
 refine h_isIn u v H2 y H3 hy _ m R3 X a c _ _ hR3 (va.mono e3) vc λh4 tk4 R4 z hR4 e4 vz=>?_
 exact h_truth hb' hR4 vz λtk5=>k h4 tk5 R4 hR4 ((e1.trans e3).trans e4)
theorem lookup_map_relabel {T:Tb} {env:Env} (hT:T.names=env.scope.names) (hk:env.scope.kind = .function) (scope:Scope) :
  (relabel scope env).names=scope.names.map fun (n,k)=>if (k == .free && T.names.lookup n == some .cell) then (n,NameKind.cell) else (n,k):=by
 unfold relabel Env.kindOf
 simp only [hk,hT]
 refine List.map_congr_left λq _=>?_
 simp
theorem relabel_free {T:Tb}:∀ {names:List (Str × NameKind)} {x:Str},names.lookup x=some .free→T.names.lookup x=some .cell →
  (names.map fun (n,k)=>if (k == .free && T.names.lookup n == some .cell) then (n,NameKind.cell) else (n,k)).lookup x=some .cell
 | [],_,h,_=>by simp at h
 | (n,k) :: r,x,h,hc=>by
  cases hx:x == n with
  | true =>
   have:=eq_of_beq hx
   subst this
   simp only [List.lookup_cons,hx] at h
   cases h
   simp [List.lookup_cons,hc]
  | false =>
   simp only [List.lookup_cons,hx] at h
   have ih:=relabel_free h hc
   simp only [List.map_cons]
   split <;> simp only [List.lookup_cons,hx] <;> exact ih
theorem relabel_none {T:Tb}:∀ {names:List (Str × NameKind)} {x:Str},names.lookup x=none →
  (names.map fun (n,k)=>if (k == .free && T.names.lookup n == some .cell) then (n,NameKind.cell) else (n,k)).lookup x=none
 | [],_,h=>rfl
 | (n,k) :: r,x,h=>by
  cases hx:x == n with
  | true =>
   simp only [List.lookup_cons,hx] at h
   cases h
  | false =>
   simp only [List.lookup_cons,hx] at h
   have ih:=relabel_none (T:=T) h
   simp only [List.map_cons]
   split <;> simp only [List.lookup_cons,hx] <;> exact ih
theorem relabel_local {T:Tb}:∀ {names:List (Str × NameKind)} {x:Str},names.lookup x=some .local →
  (names.map fun (n,k)=>if (k == .free && T.names.lookup n == some .cell) then (n,NameKind.cell) else (n,k)).lookup x=some .local
 | [],_,h=>by simp at h
 | (n,k) :: r,x,h=>by
  cases hx:x == n with
  | true =>
   have:=eq_of_beq hx
   subst this
   simp only [List.lookup_cons,hx] at h
   cases h
   simp [List.lookup_cons]
  | false =>
   simp only [List.lookup_cons,hx] at h
   have ih:=relabel_local (T:=T) h
   simp only [List.map_cons]
   split <;> simp only [List.lookup_cons,hx] <;> exact ih
noncomputable def clOf (env:Env):List (Str × NameKind)→List (Str × Addr)→List (Str × Addr)
 | [],acc=>acc
 | (n,k) :: r,acc=>clOf env r (if k == .free then (n,(env.cells.lookup n).getD 0) :: acc else acc)
theorem closure_is {env:Env} {scope:Scope} (h:∀ q ∈ scope.names,q.2 = .free→(env.cells.lookup q.1).isSome=true):closureFor scope env=pure (clOf env scope.names []):=by
 unfold closureFor
 have go:∀ (l:List (Str × NameKind)) (acc:List (Str × Addr)),(∀ q ∈ l,q.2 = .free→(env.cells.lookup q.1).isSome=true) →
   (forIn l acc (fun (q:Str × NameKind) (cs:List (Str × Addr))=>(do
    if q.2 == .free then
     let a ← cellOf env q.1
     pure (ForInStep.yield ((q.1,a) :: cs))
    else pure (ForInStep.yield cs):Sem (ForInStep (List (Str × Addr))))))=pure (clOf env l acc):=by
  intro l
  induction l with
  | nil=>intro acc _;rfl
  | cons q l ih =>
   intro acc hq
   obtain ⟨n,k⟩:=q
   rw [List.forIn_cons]
   unfold clOf
   by_cases hk:k = .free
   ·subst hk
    obtain ⟨a,ha⟩:=Option.isSome_iff_exists.mp (hq _ (.head _) rfl)
    have hc:cellOf env n=pure a:=by unfold cellOf;rw [ha]
    simp only [hc,ha,pure_bind,beq_self_eq_true,if_true,Option.getD_some]
    exact ih _ λq hm=>hq q (.tail _ hm)
   ·have:(k == NameKind.free)=false:=by simpa using hk
    simp only [this,Bool.false_eq_true,if_false,pure_bind]
    exact ih _ λq hm=>hq q (.tail _ hm)
 have:=go scope.names [] h
 rw [show (do
  let mut cs:=[]
  for (name,kind) in scope.names do
   if kind == .free then cs:=(name,← cellOf env name) :: cs
  return cs:Sem (List (Str × Addr)))=(forIn scope.names [] (fun (q:Str × NameKind) (cs:List (Str × Addr))=>(do
    if q.2 == .free then
     let a ← cellOf env q.1
     pure (ForInStep.yield ((q.1,a) :: cs))
    else pure (ForInStep.yield cs):Sem (ForInStep (List (Str × Addr)))))) >>= pure from rfl]
 rw [this]
 rfl
theorem clOf_lookup {env:Env} {x:Str} {a:Addr} (ha:env.cells.lookup x=some a):∀ (l:List (Str × NameKind)) (acc:List (Str × Addr)),(l.lookup x=some .free∨acc.lookup x=some a)→(∀ q ∈ acc,q.1=x→q.2=a)→(clOf env l acc).lookup x=some a
 | [],acc,h,_=>by
  rcases h with h | h
  ·cases h
  ·exact h
 | (n,k) :: r,acc,h,hacc=>by
  unfold clOf
  refine clOf_lookup ha r _ ?_ ?_
  ·by_cases hx:x=n
   ·subst hx
    by_cases hk:k = .free
    ·subst hk
     right
     simp [List.lookup_cons,ha]
    ·rcases h with h | h
     ·simp [List.lookup_cons] at h;exact absurd h hk
     ·right
      rw [if_neg (by simpa using hk)];exact h
   ·have hb:(x == n)=false:=beq_eq_false_iff_ne.mpr hx
    rcases h with h | h
    ·left;simpa [List.lookup_cons,hb] using h
    ·right
     split
     ·simpa [List.lookup_cons,hb] using h
     ·exact h
  ·intro q hq hqx
   split at hq
   ·rcases List.mem_cons.mp hq with rfl | hq
    ·dsimp only at hqx ⊢
     rw [hqx,ha];rfl
    ·exact hacc q hq hqx
   ·exact hacc q hq hqx
end
theorem look_mask {cs:List Nat} {e:En} {y:Nat} {w:V} (h:look (maskE cs e) y=some w):y ∈ cs∧look e y=some w:=by
 unfold look maskE at h
 rw [List.getElem?_map,List.getElem?_zipIdx] at h
 cases he:e[y]? with
 | none=>rw [he] at h;cases h
 | some o =>
  rw [he] at h
  simp only [Option.map_some,Nat.zero_add] at h
  split at h
  ·rename_i hc
   exact ⟨by simpa using hc,by unfold look;rw [he];simpa using h⟩
  ·cases h
section
variable {prog:Program} {w:World} {K:Frag} {p:Program} {loose:List Str} {mg mb:Str→Option Value} {A:Around} {h₀:Heap} {outer:List Env} {env:Env} {L:Addr} {d n:Nat} {nm:Nat→Str} {ca:CA} {fa:Nat→Addr} {T:Tb} {call:CallF}
theorem compOk_parts {sx:Nat} {cs:List Nat} {z:Str} {scope:Scope} (h:compOk T sx cs z scope=true) :
  scope.kind = .function∧(∀ q ∈ scope.names,q.2 ≠ .cell∧(q.2 = .local→scope.names.lookup q.1=some .local)∧(q.2 = .free→T.names.lookup q.1=some .cell))∧scope.names.lookup z=some .local ∧
   ∀ y ∈ cs,y ≠ sx∧((scope.names.lookup (T.sn y)=some .free∧T.names.lookup (T.sn y)=some .cell)∨scope.names.lookup (T.sn y)=none):=by
 unfold compOk at h
 simp only [Bool.and_eq_true,List.all_eq_true,Bool.or_eq_true,bne_iff_ne,beq_iff_eq,ne_eq] at h
 obtain ⟨⟨⟨h1,h2⟩,h3⟩,h4⟩:=h
 refine ⟨h1,λq hq=>?_,h3,λy hy=>h4 y hy⟩
 obtain ⟨⟨a,b⟩,c⟩:=h2 q hq
 refine ⟨a,λe=>?_,λe=>?_⟩
 ·rcases b with b | b
  ·exact absurd e b
  ·exact b
 ·rcases c with c | c
  ·exact absurd e c
  ·exact c
theorem elt_of (hk:env.scope.kind = .function) (hT:T.names=env.scope.names) {sx:Nat} {cs:List Nat} {z:Str} {scope:Scope} (hc:compOk T sx cs z scope=true) {elt:PySem.Expr} {rf:En→Hp→Option (V × Hp)} (e:En)
  (h:∀ C,SoundAt prog w nm ca A h₀ L (compEnvC scope (clOf env scope.names []) C env) (T.comp sx z scope) rf (eval elt (compEnvC scope (clOf env scope.names []) C env))) :
  EltOk prog w nm ca A h₀ L env T (λv H=>rf (put (maskE cs e) sx v) H) e elt z scope (clOf env scope.names []):=by
 obtain ⟨c1,c2,c3,c4⟩:=compOk_parts hc
 intro v H r H' hv C oC m₂ u s m R X Q E hR hC hns hmz hvu hE k
 refine h C _ H r H' hv s m R X Q E hR ⟨m₂,.inr ⟨oC,hC,hns⟩,?_⟩ k
 obtain ⟨m3,_,hE⟩:=hE
 intro y x hy
 rcases look_put hy with ⟨rfl,rfl⟩ | ⟨hne,hy⟩
 ·have e1:(T.comp y z scope).sn y=z:=if_pos rfl
  rw [e1]
  exact ⟨λ_=>⟨u,hmz,hvu⟩,λq=>by
   have:(T.comp y z scope).names.lookup z=some .local:=relabel_local c3
   rw [this] at q;cases q⟩
 ·obtain ⟨hm,hl⟩:=look_mask hy
  have e1:(T.comp sx z scope).sn y=T.sn y:=if_neg hne
  rcases (c4 y hm).2 with ⟨d2,d3⟩ | d2
  rotate_left
  ·have e2:(T.comp sx z scope).names.lookup (T.sn y)=none:=relabel_none d2
   rw [e1,e2]
   exact ⟨(λq=>nomatch q),λq=>nomatch q⟩
  have e2:(T.comp sx z scope).names.lookup (T.sn y)=some .cell:=relabel_free d2 d3
  rw [e1,e2]
  refine ⟨(λq=>nomatch q),λ_=>?_⟩
  obtain ⟨i,a,h1,h2,h3⟩:=(hE y x hl).2 d3
  exact ⟨i,a,h1,h2,clOf_lookup h3 scope.names [] (.inl d2) (λ_ q=>nomatch q)⟩
theorem scOk_of (hk:env.scope.kind = .function) (hcells:∀ x,T.names.lookup x=some .cell→(env.cells.lookup x).isSome=true) {sx:Nat} {cs:List Nat} {z:Str} {scope:Scope} (hc:compOk T sx cs z scope=true) :
  ScOk scope env z (clOf env scope.names []):=by
 obtain ⟨c1,c2,c3,c4⟩:=compOk_parts hc
 exact ⟨closure_is λq hq hf=>hcells _ ((c2 q hq).2.2 hf),λq hq=>(c2 q hq).1,c1,λq hq hl=>(c2 q hq).2.1 hl,c3⟩
theorem comp_cx0 (C:Cx0 K p loose mg mb A h₀ env L) {scope:Scope} (hs:scope.kind = .function) {cl:List (Str × Addr)} {c:Addr}:Cx0 K p loose mg mb A h₀ (compEnvC scope cl c env) L :=
 ⟨hs,C.hg,C.hb,C.X,C.T,C.hh,C.hu⟩
theorem comp_names (hT:T.names=env.scope.names) (hk:env.scope.kind = .function) {scope:Scope} {cl:List (Str × Addr)} {c:Addr} {sx:Nat} {z:Str}:(T.comp sx z scope).names=(compEnvC scope cl c env).scope.names :=
 (lookup_map_relabel hT hk scope).symm
end
theorem boot_len:bootBuiltins "len"=some (.builtin "len"):=by decide +kernel
theorem boot_bytes:bootBuiltins "bytes"=some (.type "bytes"):=by decide +kernel
theorem boot_max:bootBuiltins "max"=some (.builtin "max"):=by decide +kernel
theorem boot_min:bootBuiltins "min"=some (.builtin "min"):=by decide +kernel
theorem boot_sorted:bootBuiltins "sorted"=some (.builtin "sorted"):=by decide +kernel
theorem boot_all:bootBuiltins "all"=some (.builtin "all"):=by decide +kernel
noncomputable def Es.len:Es→Nat
 | .nil=>0
 | .cons _ as=>as.len + 1
theorem evs_some {P:Prg} {call:CallF} {a:E} {as:Es} {e:En} {H H':Hp} {vs:List V} (h:evs P call (.cons a as) e H=some (vs,H')):Ex3 λv H1 ws=>And3 (ev P call a e H=some (v,H1)) (evs P call as e H1=some (ws,H')) (vs=v :: ws):=by
 have h:(match ev P call a e H with | some (v,h)=>(match evs P call as e h with | some (vs,h)=>some (v :: vs,h) | _=>Option.none) | _=>Option.none)=some (vs,H'):=h
 cases h1:ev P call a e H with
 | none=>rw [h1] at h;cases h
 | some q =>
  rw [h1] at h
  cases h2:evs P call as e q.2 with
  | none=>dsimp only at h;rw [h2] at h;cases h
  | some r=>dsimp only at h;rw [h2] at h;cases h;exact ⟨q.1,q.2,r.1,rfl,h2,rfl⟩
theorem evs_len {P:Prg} {call:CallF}:∀ (as:Es) {e:En} {H:Hp} {vs:List V} {H':Hp},evs P call as e H=some (vs,H')→vs.length=as.len
 | .nil,e,H,vs,H',h=>by cases (show some (([]:List V),H)=some (vs,H') from h);rfl
 | .cons a as,e,H,vs,H',h=>by
  obtain ⟨v,H1,ws,_,h2,rfl⟩:=evs_some h
  exact congrArg (· + 1) (evs_len as h2)
theorem cons_of {l:List PySem.Expr} (h:(!l.isEmpty)=true):l=hd l :: l.tail:=by
 cases l with
 | nil=>cases h
 | cons=>rfl
theorem chkEs_len:∀ (as:Es) {T:Tb} {l:List PySem.Expr},chkEs as T l=true→l.length=as.len
 | .nil,T,l,h=>by rw [List.isEmpty_iff.mp (show l.isEmpty=true from h)];rfl
 | .cons a as,T,l,h=>by
  obtain ⟨h1,h2⟩:=band h
  rw [cons_of h1]
  exact congrArg (· + 1) (chkEs_len as (band h2).2)
structure Gd (K:Frag) (p:Program) (loose:List Str) (mg mb:Str→Option Value) (A:Around) (h₀:Heap) (fenv:Env) (L:Addr) (nm:Nat→Str) (gi:Str→Option Int) (fn cl ex:Nat→Option Str) (T:Tb) (env:Env):Prop where
 C0:Cx0 K p loose mg mb A h₀ env L
 names:T.names=env.scope.names
 tnm:T.nm=nm
 tgi:T.gi=gi
 tfn:T.fn=fn
 tcl:T.cl=cl
 tex:T.ex=ex
 top:T.top=true→env=fenv
structure TC where
 prog:Program
 w:World
 K:Frag
 p:Program
 loose:List Str
 mg:Str→Option Value
 mb:Str→Option Value
 A:Around
 h₀:Heap
 outer:List Env
 fenv:Env
 L:Addr
 n:Nat
 nm:Nat→Str
 cc:Nat→Addr
 fa:Nat→Addr
 fr:Addr→Option Data
 call:CallF
 P:Prg
 gi:Str→Option Int
 fn:Nat→Option Str
 cl:Nat→Option Str
 ex:Nat→Option Str
 KO:KOk K nm cc fa P gi fn cl ex
 C:Cx prog w K p loose mg mb ⟨cc,fr⟩ A h₀ outer fenv L (n + 1)
 hc:CallOk prog w K p loose mg mb nm ⟨cc,fr⟩ fa call n
 hl:fenv.locals=L
 hcells:∀ x,fenv.scope.names.lookup x=some .cell→(fenv.cells.lookup x).isSome=true
noncomputable def TC.G (c:TC) (T:Tb) (env:Env):Prop:=Gd c.K c.p c.loose c.mg c.mb c.A c.h₀ c.fenv c.L c.nm c.gi c.fn c.cl c.ex T env
noncomputable def TC.S (c:TC) (env:Env) (T:Tb) (r:En→Hp→Option (V × Hp)) (t:Sem Value):Prop:=SoundAt c.prog c.w c.nm ⟨c.cc,c.fr⟩ c.A c.h₀ c.L env T r t
noncomputable def PE (c:TC) (e:E):Prop:=∀ (T:Tb) (y:PySem.Expr) (env:Env),chkE e T y=true→c.G T env→c.S env T (λs H=>ev c.P c.call e s H) (eval y env)
noncomputable def PEs (c:TC) (as:Es):Prop:=∀ (T:Tb) (l:List PySem.Expr) (env:Env),chkEs as T l=true→c.G T env →
 (isStarLess l=true→∀ {pos:Pos},SoundsAt c.prog c.w c.nm ⟨c.cc,c.fr⟩ c.A c.h₀ c.L env T (λs H=>evs c.P c.call as s H) (spliced (backTo pos (starEach l env)))) ∧
 ∀ (ks:List Nat) (kn:List (Str × Nat × Pos)),kn.map (·.1)=ks.map c.nm→l.length=ks.length→(∀ k ∈ ks,decide (k < 100)=true)→∀ {pos:Pos},
  PairsAt c.prog c.w c.nm ⟨c.cc,c.fr⟩ c.A c.h₀ c.L env T ks (λs H=>evs c.P c.call as s H) (pairsT env pos kn l)
theorem TC.S.at {c:TC} {env:Env} {T:Tb} {r:En→Hp→Option (V × Hp)} {y y':PySem.Expr} (e:y=y') (h:c.S env T r (eval y' env)):c.S env T r (eval y env):=e ▸ h
section
variable {c:TC} {a b:E} {as:Es}
theorem c_var {x:Nat}:PE c (.var x):=λT y env h G=>.at (isN_eq (band h).1) (s_var G.C0 G.names (band h).2)
theorem c_cvar {x:Nat}:PE c (.cvar x):=λT y env h G=>.at (isN_eq (band h).1) (s_cvar G.C0 G.names (band h).2)
theorem c_int {i:Int}:PE c (.int i):=λT y env h G=>.at (isC_eq h) s_int
theorem c_gint {x:Nat} {i:Int}:PE c (.gint x i):=λT y env h G=>.at (isN_eq (band h).1) (s_gint G.C0 G.names (band (band h).2).1 (c.KO.hgi _ _ (by rw [← G.tgi];exact of_decide_eq_true (band (band h).2).2)))
theorem c_neg {i:Int}:PE c (.neg i):=λT y env h G=>.at ((isUo_eq (band h).1).trans (by rw [isC_eq (band h).2])) s_neg
theorem c_none:PE c .none:=λT y env h G=>.at (isC_eq h) s_none
theorem c_bool {v:Bool}:PE c (.bool v):=λT y env h G=>.at (isC_eq h) s_bool
theorem c_bytes {v:List UInt8}:PE c (.bytes v):=λT y env h G=>.at (isC_eq h) s_bytes
theorem c_bin {op:Bop} (ha:PE c a) (hb:PE c b):PE c (.bin op a b):=λT y env h G=>by
 obtain ⟨h1,h2,h3,h4⟩:=band4 h
 exact .at ((is_BinOp (eq_of_beq h1)).trans (by rw [bopIs_eq h2])) (s_bin G.C0.hh (ha T _ env h3 G) (hb T _ env h4 G))
theorem c_cmp {op:Cop} (ha:PE c a) (hb:PE c b):PE c (.cmp op a b):=λT y env h G=>by
 obtain ⟨h1,h2,h3,h4,h5⟩:=band5 h
 have e:=copIs_eq h2
 exact .at ((isK_eq h1).trans (by rw [e])) (s_cmp G.C0.hu (ha T _ env h4 G) (hb T _ env h5 G) (e ▸ bnot h3))
theorem c_isNone (ha:PE c a):PE c (.isNone a):=λT y env h G=>by
 obtain ⟨h1,h2,h3,h4⟩:=band4 h
 exact .at ((isK_eq h1).trans (by rw [of_decide_eq_true h2,isC_eq h3])) (s_isNone (ha T _ env h4 G))
theorem c_notNone (ha:PE c a):PE c (.notNone a):=λT y env h G=>by
 obtain ⟨h1,h2,h3,h4⟩:=band4 h
 exact .at ((isK_eq h1).trans (by rw [of_decide_eq_true h2,isC_eq h3])) (s_notNone (ha T _ env h4 G))
theorem c_isIn (ha:PE c a) (hb:PE c b):PE c (.isIn a b):=λT y env h G=>by
 obtain ⟨h1,h2,h3,h4,h5⟩:=band5 h
 exact .at ((isK_eq h1).trans (by rw [of_decide_eq_true h2])) (s_isIn (ha T _ env h4 G) (hb T _ env h5 G) (bnot h3))
theorem c_not (ha:PE c a):PE c (.not a):=λT y env h G=>.at (isUo_eq (band h).1) (s_not (ha T _ env (band h).2 G))
theorem isB_eq {y:PySem.Expr} {o:BoolOp} (h:isB y o=true):Ex2 λt ts=>y = .BoolOp o (hd (vx y).l :: t :: ts) (vx y).p∧(vx y).l=hd (vx y).l :: t :: ts:=by
 obtain ⟨h1,h2,h3⟩:=band3 h
 have e:=is_BoolOp (eq_of_beq h1)
 rw [of_decide_eq_true h2] at e
 cases hl:(vx y).l with
 | nil=>rw [hl] at h3;cases h3
 | cons q l =>
  cases l with
  | nil=>rw [hl] at h3;cases h3
  | cons t ts=>exact ⟨t,ts,e.trans (by rw [hl];rfl),rfl⟩
theorem rest_eq {y:PySem.Expr} {o:BoolOp} {env:Env} {q t:PySem.Expr} {ts:List PySem.Expr} (h:(vx y).l=q :: t :: ts):boolOp (vx y).p o (evalEach (t :: ts) env)=eval (bRest y o) env:=by
 unfold bRest
 rw [h]
 cases ts with
 | nil=>rfl
 | cons=>rfl
theorem c_and (ha:PE c a) (hb:PE c b):PE c (.and a b):=λT y env h G=>by
 obtain ⟨h1,h2,h3⟩:=band3 h
 obtain ⟨t,ts,e,e2⟩:=isB_eq h1
 have hb':=hb T _ env h3 G
 rw [← rest_eq e2] at hb'
 exact .at e (b_more .And (ha T _ env h2 G) hb')
theorem c_or (ha:PE c a) (hb:PE c b):PE c (.or a b):=λT y env h G=>by
 obtain ⟨h1,h2,h3⟩:=band3 h
 obtain ⟨t,ts,e,e2⟩:=isB_eq h1
 have hb':=hb T _ env h3 G
 rw [← rest_eq e2] at hb'
 exact .at e (b_more .Or (ha T _ env h2 G) hb')
theorem c_attr {n:Nat} (ha:PE c a):PE c (.attr a n):=λT y env h G=>by
 obtain ⟨h1,h2,h3,h4,h5⟩:=band5 h
 exact .at ((is_Attribute (eq_of_beq h1)).trans (by rw [of_decide_eq_true h2,G.tnm])) (s_attr (ca:=⟨c.cc,c.fr⟩) G.C0 c.KO.hnm c.KO.hfld (of_decide_eq_true h3) (bnot h4) (ha T _ env h5 G))
theorem c_idx (ha:PE c a) (hb:PE c b):PE c (.idx a b):=λT y env h G=>by
 obtain ⟨h1,h2,h3,h4⟩:=band4 h
 exact .at (isSub_eq h1) (s_two (f:=λu v H=>(getIdx u v H).map λv=>(v,H)) (g:=λa b=>subscriptTail _ _ a b) (ha T _ env h3 G) (hb T _ env h4 G) (λu v H r H' q s m R X a b Q E hR ha hb k=>h_getIdx (bnot h2) u v H r H' q s m R X a b Q E hR ha hb k) λs Q E q=>Subscript_ q)
theorem c_key {n:Nat} (ha:PE c a):PE c (.key a n):=λT y env h G=>by
 obtain ⟨h1,h2,h3,h4⟩:=band4 h
 exact .at ((isSub_eq h1).trans (by rw [isC_eq h2,G.tnm])) (s_key c.KO.hnm (of_decide_eq_true h3) (ha T _ env h4 G))
theorem some_of {o:Option PySem.Expr} (h:o.isSome=true):o=some (o.getD default):=by
 cases o with
 | none=>cases h
 | some=>rfl
theorem none_of {o:Option PySem.Expr} (h:o.isNone=true):o=none:=by
 cases o with
 | none=>rfl
 | some=>cases h
theorem sl_1 {o1 o2 o3:Option PySem.Expr} {p:Pos} (h1:o1.isNone=true) (h2:o2.isSome=true) (h3:o3.isNone=true):PySem.Expr.Slice o1 o2 o3 p = .Slice none (some (o2.getD default)) none p:=by
 rw [none_of h1,none_of h3,← some_of h2]
theorem sl_2 {o1 o2 o3:Option PySem.Expr} {p:Pos} (h1:o1.isNone=true) (h2:o2.isNone=true) (h3:o3.isSome=true) (h4:isUo (o3.getD default) .USub=true) (h5:isC (vx (o3.getD default)).x (.int 1)=true) :
  PySem.Expr.Slice o1 o2 o3 p = .Slice none none (some (.UnaryOp .USub (.Constant (.int 1) (vx (vx (o3.getD default)).x).n (vx (vx (o3.getD default)).x).p) (vx (o3.getD default)).p)) p:=by
 rw [none_of h1,none_of h2,← isC_eq h5,← isUo_eq h4,← some_of h3]
theorem c_sliceTo (ha:PE c a) (hb:PE c b):PE c (.sliceTo a b):=λT y env h G=>by
 obtain ⟨h1,h2,h3,h4,h5,h6,h7⟩:=band7 h
 exact .at ((isSub_eq h1).trans (congrArg (λz=>PySem.Expr.Subscript _ z _) ((is_Slice (eq_of_beq h2)).trans (sl_1 h3 h6 h4)))) (s_sliceTo (ha T _ env h5 G) (hb T _ env h7 G))
theorem c_rev (ha:PE c a):PE c (.rev a):=λT y env h G=>by
 obtain ⟨h1,h2,h3,h4,h5,h6,h7,h8⟩:=band8 h
 exact .at ((isSub_eq h1).trans (congrArg (λz=>PySem.Expr.Subscript _ z _) ((is_Slice (eq_of_beq h2)).trans (sl_2 h3 h4 h5 h6 h7)))) (s_rev (ha T _ env h8 G))
theorem c_call {f:Nat} (hs:PEs c as):PE c (.call f as):=λT y env h G=>by
 obtain ⟨h1,h2,h3,h4,h5⟩:=band5 h
 obtain ⟨k1,k2⟩:=c.KO.hfn f _ (by rw [← G.tfn];exact of_decide_eq_true h3)
 exact .at (isCN_eq h1) (s_call G.C0 c.C c.hc (Nat.le_succ c.n) G.names h2 k1 k2 (starLess_of h4) ((hs T _ env h5 G).1 h4))
theorem c_new {k:Nat} (hs:PEs c as):PE c (.new k as):=λT y env h G=>by
 obtain ⟨h1,h0,h2,h3,h4,h5⟩:=band6 h
 have he:=(G.top h0).symm
 subst he
 have hcl:=of_decide_eq_true h3
 rw [G.tcl] at hcl
 obtain ⟨k1,k2,k3⟩:=c.KO.hcl k _ hcl
 refine .at (isCN_eq h1) ?_
 have e0:∀ s H,ev c.P c.call (.new k as) s H=(match evs c.P c.call as s H with
  | some (vs,h)=>newF c.P c.call k vs h
  | _=>Option.none):=λ_ _=>rfl
 cases hi:c.P.init k with
 | none =>
  intro s H v H' hv
  dsimp only at hv
  rw [e0] at hv
  unfold newF at hv
  rw [hi] at hv
  cases q:evs c.P c.call as s H with
  | none=>rw [q] at hv;cases hv
  | some r=>rw [q] at hv;cases hv
 | some o =>
  cases o with
  | some f =>
   obtain ⟨k4,k5⟩:=c.KO.hinit1 k _ f hcl hi
   exact (s_new (ca:=⟨c.cc,c.fr⟩) c.C c.hc (Nat.le_refl _) G.names h2 k1 k2 k3 k4 k5 (starLess_of h4) ((hs T _ _ h5 G).1 h4)).congr λs H=>by
    rw [e0]
    unfold newF
    rw [hi];try rfl
  | none =>
   have k4:=c.KO.hinit0 k _ hcl hi
   cases as with
   | nil =>
    rw [List.isEmpty_iff.mp (show (vx y).l.isEmpty=true from h5)]
    exact (s_new0 (ca:=⟨c.cc,c.fr⟩) c.C G.names h2 k1 k2 k3 k4).congr λs H=>by
     rw [e0]
     show newF c.P c.call k [] H=_
     unfold newF
     rw [hi];try rfl
   | cons a as =>
    intro s H v H' hv
    dsimp only at hv
    rw [e0] at hv
    unfold newF at hv
    rw [hi] at hv
    cases q:evs c.P c.call (.cons a as) s H with
    | none=>rw [q] at hv;cases hv
    | some r =>
     obtain ⟨_,_,_,_,_,e⟩:=evs_some q
     rw [q] at hv
     dsimp only at hv
     rw [e] at hv
     cases hv
theorem c_meth {o:E} {m:Nat} (ho:PE c o) (hs:PEs c as):PE c (.meth o m as):=λT y env h G=>by
 obtain ⟨h1,h0,h2,h3,h4,h5,h6,h⟩:=band8 h
 obtain ⟨h7,h8⟩:=band h
 have he:=(G.top h0).symm
 subst he
 obtain ⟨e1,e2⟩:=isCA_eq h1
 exact .at (e1.trans (by rw [of_decide_eq_true h2,G.tnm])) (s_meth (ca:=⟨c.cc,c.fr⟩) c.C c.hc (Nat.le_succ c.n) c.KO.hnm (P:=c.P) c.KO.hmeth (of_decide_eq_true h3) (bnot h4) (starLess_of h5) (of_decide_eq_true h6) (beq_iff_eq.mpr e2) (ho T _ _ h7 G) ((hs T _ _ h8 G).1 h5))
theorem isB1_eq {y:PySem.Expr} {T:Tb} {x:Str} (h:isB1 y T x=true):y = .Call (.Name x (vx (vx y).x).p) [hd (vx y).l] [] (vx y).p∧T.glb x=true∧starLike (hd (vx y).l)=false:=by
 obtain ⟨h1,h2,h3,h4,h5⟩:=band5 h
 have e:=of_decide_eq_true h3
 have e1:=isCN_eq h1
 rw [e] at h2 e1
 exact ⟨e1.trans (congrArg (λl=>PySem.Expr.Call _ l _ _) (one_of h4)),h2,bnot h5⟩
theorem isB2_eq {y:PySem.Expr} {T:Tb} {x:Str} (h:isB2 y T x=true):y = .Call (.Name x (vx (vx y).x).p) [hd (vx y).l,hd2 (vx y).l] [] (vx y).p∧T.glb x=true∧starLike (hd (vx y).l)=false∧starLike (hd2 (vx y).l)=false:=by
 obtain ⟨h1,h2,h3,h4,h5,h6⟩:=band6 h
 have e:=of_decide_eq_true h3
 have e1:=isCN_eq h1
 rw [e] at h2 e1
 exact ⟨e1.trans (congrArg (λl=>PySem.Expr.Call _ l _ _) (two_of h4)),h2,bnot h5,bnot h6⟩
theorem isM1_eq {y:PySem.Expr} {x:Str} (h:isM1 y x=true):y = .Call (.Attribute (cao y) x (vx (vx y).x).p) [hd (vx y).l] [] (vx y).p∧((vx (vx y).x).p.endLine == (vx y).p.line)=true∧superLike (cao y)=false∧starLike (hd (vx y).l)=false:=by
 obtain ⟨h1,h2,h3,h4,h5⟩:=band5 h
 obtain ⟨e1,e2⟩:=isCA_eq h1
 rw [of_decide_eq_true h2] at e1
 exact ⟨e1.trans (congrArg (λl=>PySem.Expr.Call _ l _ _) (one_of h4)),beq_iff_eq.mpr e2,bnot h3,bnot h5⟩
theorem c_len (ha:PE c a):PE c (.len a):=λT y env h G=>by
 obtain ⟨h1,h2⟩:=band h
 obtain ⟨e,h3,h4⟩:=isB1_eq h1
 exact .at e (s_call1 (F:=λu H=>(lenOf u H).map fun (n:Nat)=>(V.int n,H)) G.C0 G.names h3 (c.KO.hbn _ (by decide)) boot_len (by decide) (λ_ q=>nomatch q) h4 (ha T _ env h2 G) h_len)
theorem c_bytesOf (ha:PE c a):PE c (.bytesOf a):=λT y env h G=>by
 obtain ⟨h1,h2⟩:=band h
 obtain ⟨e,h3,h4⟩:=isB1_eq h1
 exact .at e (s_call1 (F:=bytesF) G.C0 G.names h3 (c.KO.hbn _ (by decide)) boot_bytes (by decide) (λ_ q=>nomatch q) h4 (ha T _ env h2 G) (h_bytesOf G.C0.hh))
theorem c_sorted (ha:PE c a):PE c (.sortedKeys a):=λT y env h G=>by
 obtain ⟨h1,h2⟩:=band h
 obtain ⟨e,h3,h4⟩:=isB1_eq h1
 exact .at e (s_call1 (F:=sortF) G.C0 G.names h3 (c.KO.hbn _ (by decide)) boot_sorted (by decide) (λ_ q=>nomatch q) h4 (ha T _ env h2 G) h_sorted)
theorem c_all (ha:PE c a):PE c (.all a):=λT y env h G=>by
 obtain ⟨h1,h2⟩:=band h
 obtain ⟨e,h3,h4⟩:=isB1_eq h1
 exact .at e (s_call1 (F:=allF) G.C0 G.names h3 (c.KO.hbn _ (by decide)) boot_all (by decide) (λ_ q=>nomatch q) h4 (ha T _ env h2 G) (h_all G.C0.hh))
theorem h_max' (hh:c.A.handled=none) (u v:V) (H:Hp) (r:V) (H':Hp) (h:maxF u v H=some (r,H')) (s:Shared) (m:Str→Option Value) (R:List RO) (X:List (Addr × Obj)) (a b:Value) (Q:Value→Shared→Prop) (E:Value→Shared→Prop)
  (hR:Rep c.w.params c.nm ⟨c.cc,c.fr⟩ c.h₀ c.L X m s.heap R H) (ha:VR (ads R) u a) (hb:VR (ads R) v b)
  (k:∀ h' tk R' y,Rep c.w.params c.nm ⟨c.cc,c.fr⟩ c.h₀ c.L X m h' R' H'→ads R <+: ads R'→VR (ads R') r y→Q y { s with heap:=h',toks:=tk }):wpAny (model c.prog c.w) c.A (call (.builtin "max") [a,b]) Q E s:=by
 induction u <;> first | exact nomatch (show (Option.none:Option (V × Hp))=some (r,H') from h) | skip
 induction v <;> first | exact nomatch (show (Option.none:Option (V × Hp))=some (r,H') from h) | skip
 cases h;exact h_max hh _ _ H s m R X a b Q E hR ha hb k
theorem h_min' (hh:c.A.handled=none) (u v:V) (H:Hp) (r:V) (H':Hp) (h:minF u v H=some (r,H')) (s:Shared) (m:Str→Option Value) (R:List RO) (X:List (Addr × Obj)) (a b:Value) (Q:Value→Shared→Prop) (E:Value→Shared→Prop)
  (hR:Rep c.w.params c.nm ⟨c.cc,c.fr⟩ c.h₀ c.L X m s.heap R H) (ha:VR (ads R) u a) (hb:VR (ads R) v b)
  (k:∀ h' tk R' y,Rep c.w.params c.nm ⟨c.cc,c.fr⟩ c.h₀ c.L X m h' R' H'→ads R <+: ads R'→VR (ads R') r y→Q y { s with heap:=h',toks:=tk }):wpAny (model c.prog c.w) c.A (call (.builtin "min") [a,b]) Q E s:=by
 induction u <;> first | exact nomatch (show (Option.none:Option (V × Hp))=some (r,H') from h) | skip
 induction v <;> first | exact nomatch (show (Option.none:Option (V × Hp))=some (r,H') from h) | skip
 cases h;exact h_min hh _ _ H s m R X a b Q E hR ha hb k
theorem c_max (ha:PE c a) (hb:PE c b):PE c (.max a b):=λT y env h G=>by
 obtain ⟨h1,h2,h3⟩:=band3 h
 obtain ⟨e,h4,h5,h6⟩:=isB2_eq h1
 exact .at e (s_call2 (F:=maxF) G.C0 G.names h4 (c.KO.hbn _ (by decide)) boot_max (by decide) (λ_ q=>nomatch q) h5 h6 (ha T _ env h2 G) (hb T _ env h3 G) (h_max' G.C0.hh))
theorem c_min (ha:PE c a) (hb:PE c b):PE c (.min a b):=λT y env h G=>by
 obtain ⟨h1,h2,h3⟩:=band3 h
 obtain ⟨e,h4,h5,h6⟩:=isB2_eq h1
 exact .at e (s_call2 (F:=minF) G.C0 G.names h4 (c.KO.hbn _ (by decide)) boot_min (by decide) (λ_ q=>nomatch q) h5 h6 (ha T _ env h2 G) (hb T _ env h3 G) (h_min' G.C0.hh))
noncomputable def onL (o:Option (V × Hp)):Option (V × Hp):=o.bind λq=>if isL q.1 q.2 then some q else Option.none
theorem onL_some {o:Option (V × Hp)} {q:V × Hp} (h:onL o=some q):o=some q∧isL q.1 q.2=true:=by
 cases o with
 | none=>cases h
 | some p =>
  have h:(if isL p.1 p.2=true then some p else Option.none)=some q:=h
  cases hp:isL p.1 p.2 with
  | false=>rw [hp] at h;cases h
  | true=>rw [hp] at h;cases h;exact ⟨rfl,hp⟩
theorem onL_eq (o:Option (V × Hp)) (g:V→Hp→Option (V × Hp)):(match o with | some (u,h)=>if isL u h then g u h else Option.none | _=>Option.none)=(match onL o with | some (u,h)=>g u h | _=>Option.none):=by
 cases o with
 | none=>rfl
 | some p =>
  show (if isL p.1 p.2=true then g p.1 p.2 else Option.none)=(match (if isL p.1 p.2=true then some p else Option.none) with | some (u,h)=>g u h | _=>Option.none)
  cases isL p.1 p.2 <;> rfl
theorem isL_some {u:V} {H:Hp} (h:isL u H=true):Ex2 λi l=>u = .ref i∧H[i]?=some (.list l):=by
 induction u <;> first | exact nomatch (show false=true from h) | skip
 rename_i i
 have h:(match H[i]? with | some (O.list _)=>true | _=>false)=true:=h
 cases q:H[i]? with
 | none=>rw [q] at h;cases h
 | some o =>
  rw [q] at h
  induction o <;> first | exact nomatch (show false=true from h) | skip
  exact ⟨i,_,rfl,q⟩
theorem c_lm {o:E} {x:Str} {id:String} {F:V→V→Hp→Option (V × Hp)} {T:Tb} {y:PySem.Expr} {env:Env} (slot:Slot "list" x id) (hty:typeOf (.builtin id)=pure (.type "method_descriptor"))
  (hG:∀ (u v:V) (H:Hp) (r:V) (H':Hp),F u v H=some (r,H')→∀ (s:Shared) (m:Str→Option Value) (R:List RO) (X:List (Addr × Obj)) (a b:Value) (Q:Value→Shared→Prop) (E:Value→Shared→Prop),
   Rep c.w.params c.nm ⟨c.cc,c.fr⟩ c.h₀ c.L X m s.heap R H→VR (ads R) u a→VR (ads R) v b →
   (∀ h' tk R' y,Rep c.w.params c.nm ⟨c.cc,c.fr⟩ c.h₀ c.L X m h' R' H'→ads R <+: ads R'→VR (ads R') r y→Q y { s with heap:=h',toks:=tk })→wpAny (model c.prog c.w) c.A (call (.builtin id) [a,b]) Q E s)
  (ho:PE c o) (ha:PE c a) (h:(isM1 y x && (chkE o T (cao y) && chkE a T (hd (vx y).l)))=true) (G:c.G T env) :
  c.S env T (λs H=>match ev c.P c.call o s H with
   | some (u,h)=>if isL u h then (match ev c.P c.call a s h with | some (v,h)=>F u v h | _=>Option.none) else Option.none
   | _=>Option.none) (eval y env):=by
 obtain ⟨h1,h2,h3⟩:=band3 h
 obtain ⟨e,h4,h5,h6⟩:=isM1_eq h1
 exact .at e ((s_lmeth slot hty hG h5 h6 h4 (ra:=λs H=>onL (ev c.P c.call o s H)) (λs H v H' hv=>ho T _ env h2 G s H v H' (onL_some hv).1) (ha T _ env h3 G) λs H u H' hv=>isL_some (onL_some hv).2).congr λs H=>onL_eq _ _)
theorem c_append {o:E} (ho:PE c o) (ha:PE c a):PE c (.append o a):=λT y env h G=>c_lm (F:=λu v H=>listOp u (appendF v) H) PySem.F.slot_list_append PySem.F.type_list_append h_append ho ha h G
theorem c_remove {o:E} (ho:PE c o) (ha:PE c a):PE c (.remove o a):=λT y env h G=>c_lm (F:=remF) PySem.F.slot_list_remove PySem.F.type_list_remove h_remove ho ha h G
theorem c_index {o:E} (ho:PE c o) (ha:PE c a):PE c (.index o a):=λT y env h G=>c_lm (F:=idxF) PySem.F.slot_list_index PySem.F.type_list_index h_index ho ha h G
theorem c_pop {o:E} (ho:PE c o):PE c (.pop o):=λT y env h G=>by
 obtain ⟨h1,h2,h3,h4,h5⟩:=band5 h
 obtain ⟨e1,e2⟩:=isCA_eq h1
 exact .at (e1.trans (by rw [of_decide_eq_true h2,List.isEmpty_iff.mp h4])) (s_pop (bnot h3) (beq_iff_eq.mpr e2) (ho T _ env h5 G))
theorem c_list (hs:PEs c as):PE c (.list as):=λT y env h G=>by
 obtain ⟨h1,h2,h3,h4⟩:=band4 h
 have h2:=of_decide_eq_true h2
 exact .at (is_List (eq_of_beq h1)) (s_list h2 (λs H vs H' q=>by rw [evs_len as q,← chkEs_len as h4];exact h2) ((hs T _ env h4 G).1 h3))
theorem c_tuple (hs:PEs c as):PE c (.tuple as):=λT y env h G=>by
 obtain ⟨h1,h2,h3,h4⟩:=band4 h
 have h2:=of_decide_eq_true h2
 exact .at (is_Tuple (eq_of_beq h1)) (s_tuple (λs H vs H' q=>by rw [evs_len as q,← chkEs_len as h4];exact h2) ((hs T _ env h4 G).1 h3))
theorem c_dict {ks:List Nat} (hs:PEs c as):PE c (.dict ks as):=λT y env h G=>by
 obtain ⟨h1,h2,h3,h4,h5,h6,h7,h8⟩:=band8 h
 obtain ⟨kn,e1,e2⟩:=keysOk_eq h2
 have hlen:kn.length=ks.length:=by rw [← List.length_map (f:=(·.1)),e2,List.length_map]
 have h7:(vx y).l.length=ks.length:=eq_of_beq h7
 refine .at ((is_Dict (eq_of_beq h1)).trans (congrArg (λz=>PySem.Expr.Dict z _ _) e1)) (s_dict c.KO.hnm (of_decide_eq_true h4) ?_ (by rw [hlen];exact of_decide_eq_true h3) ((hs T _ env h8 G).2 ks kn (by rw [e2,G.tnm]) h7 λk hk=>List.all_eq_true.mp h5 k hk))
 generalize (vx y).l=l at h7
 cases ks with
 | nil=>exact nomatch h6
 | cons k ks =>
  cases kn with
  | nil=>exact nomatch hlen
  | cons q kn =>
   cases l with
   | nil=>exact nomatch h7
   | cons x l=>exact λq=>nomatch q
theorem c_comp {it:E} {x:Nat} {cs:List Nat} (hb:PE c b) (hi:PE c it):PE c (.comp b x cs it):=λT y env h G=>by
 obtain ⟨h1,h2,h3,h4,h5,h6⟩:=band6 h
 have he:=(G.top h2).symm
 subst he
 have hk:=G.C0.hk
 exact .at (isLC_eq h1) (s_comp (F:=λe v H=>ev c.P c.call b (put (maskE cs e) x v) H) G.C0.hh c.hl (scOk_of hk (λx hx=>c.hcells x (by rw [← G.names];exact hx)) h3) (λe=>elt_of hk G.names h3 e λz=>hb (T.comp x _ _) _ _ h6 ⟨comp_cx0 G.C0 (compOk_parts h3).1,comp_names G.names hk,G.tnm,G.tgi,G.tfn,G.tcl,G.tex,λq=>nomatch q⟩) (bnot h4) (hi T _ _ h5 G))
theorem c_compR {x:Nat} {cs:List Nat} {e1 e2 e3:E}:PE c (.compR b x cs e1 e2 e3):=λ_ _ _ h _=>nomatch h
theorem c_bad:PE c .bad:=λ_ _ _ _ _=>λ_ _ _ _ hv=>nomatch hv
theorem cs_nil:PEs c .nil:=λT l env h G=>by
 rw [List.isEmpty_iff.mp (show l.isEmpty=true from h)]
 refine ⟨λ_=>ss_nil,λks kn e hl _=>?_⟩
 cases ks with
 | nil =>
  cases kn with
  | nil=>exact sp_nil
  | cons=>cases e
 | cons=>cases hl
theorem cs_cons (ha:PE c a) (hs:PEs c as):PEs c (.cons a as):=λT l env h G=>by
 obtain ⟨h1,h2,h3⟩:=band3 h
 rw [cons_of h1]
 refine ⟨λq=>?_,λks kn e hl hk=>?_⟩
 ·obtain ⟨q1,q2⟩:=band (show (!starLike (hd l) && isStarLess l.tail)=true from q)
  exact ss_cons (bnot q1) (ha T _ env h2 G) ((hs T _ env h3 G).1 q2)
 ·cases ks with
  | nil=>cases hl
  | cons k ks =>
   cases kn with
   | nil=>cases e
   | cons q kn =>
    obtain ⟨q1,q2,q3⟩:=q
    obtain ⟨e1,e2⟩:=List.cons.inj e
    obtain rfl:q1=c.nm k:=e1
    exact sp_cons (of_decide_eq_true (hk k (.head _))) (ha T _ env h2 G) ((hs T _ env h3 G).2 ks kn e2 (Nat.succ.inj hl) λz hz=>hk z (.tail _ hz))
theorem soundE (c:TC) (e:E):PE c e:=@E.rec (PE c) (PEs c) (λ_=>c_var) (λ_=>c_cvar) (λ_=>c_int) (λ_ _=>c_gint) (λ_=>c_neg) c_none (λ_=>c_bool) (λ_=>c_bytes) (λ_ _ _=>c_bin) (λ_ _ _=>c_cmp)
  (λ_=>c_isNone) (λ_=>c_notNone) (λ_ _=>c_isIn) (λ_=>c_not) (λ_ _=>c_and) (λ_ _=>c_or) (λ_ _=>c_attr) (λ_ _=>c_idx) (λ_ _=>c_key) (λ_ _=>c_sliceTo) (λ_=>c_rev)
  (λ_ _=>c_call) (λ_ _=>c_new) (λ_ _ _=>c_meth) (λ_=>c_len) (λ_=>c_bytesOf) (λ_ _=>c_max) (λ_ _=>c_min) (λ_=>c_sorted) (λ_=>c_all) (λ_ _=>c_append) (λ_ _=>c_remove) (λ_ _=>c_index) (λ_=>c_pop)
  (λ_=>c_list) (λ_=>c_tuple) (λ_ _=>c_dict) (λ_ _ _ _=>c_comp) (λ_ _ _ _ _ _ _ _ _ _=>c_compR) c_bad cs_nil (λ_ _=>cs_cons) e
theorem soundEs (c:TC) (as:Es):PEs c as:=@Es.rec (PE c) (PEs c) (λ_=>c_var) (λ_=>c_cvar) (λ_=>c_int) (λ_ _=>c_gint) (λ_=>c_neg) c_none (λ_=>c_bool) (λ_=>c_bytes) (λ_ _ _=>c_bin) (λ_ _ _=>c_cmp)
  (λ_=>c_isNone) (λ_=>c_notNone) (λ_ _=>c_isIn) (λ_=>c_not) (λ_ _=>c_and) (λ_ _=>c_or) (λ_ _=>c_attr) (λ_ _=>c_idx) (λ_ _=>c_key) (λ_ _=>c_sliceTo) (λ_=>c_rev)
  (λ_ _=>c_call) (λ_ _=>c_new) (λ_ _ _=>c_meth) (λ_=>c_len) (λ_=>c_bytesOf) (λ_ _=>c_max) (λ_ _=>c_min) (λ_=>c_sorted) (λ_=>c_all) (λ_ _=>c_append) (λ_ _=>c_remove) (λ_ _=>c_index) (λ_=>c_pop)
  (λ_=>c_list) (λ_=>c_tuple) (λ_ _=>c_dict) (λ_ _ _ _=>c_comp) (λ_ _ _ _ _ _ _ _ _ _=>c_compR) c_bad cs_nil (λ_ _=>cs_cons) as
end
noncomputable def plainIdx (n:Nat):Bool:=n != 0 && n != 3 && n != 5 && n != 15
theorem plain_eq {x:PySem.Expr} (h:plainIdx x.ctorIdx=true) (env:Env):isTrue x env (eval x env)=(do let v ← eval x env;standAt x.pos;holding [v] (truthy v)):=by
 cases x <;> first | rfl | cases h
theorem not_O (o:Option (V × Hp)):(match (match o with | some (u,h)=>(truth h u).map λb=>(V.bool (!b),h) | _=>Option.none) with | some (v,h)=>(truth h v).map λb=>(b,h) | Option.none=>Option.none)=(match o with | some (v,h)=>(truth h v).map λb=>(b,h) | Option.none=>Option.none).map λp:Bool × Hp=>(!p.1,p.2):=by
 cases o with
 | none=>rfl
 | some q =>
  show (match ((truth q.2 q.1).map λb=>(V.bool (!b),q.2)) with | some (v,h)=>(truth h v).map λb=>(b,h) | Option.none=>Option.none)=((truth q.2 q.1).map λb=>(b,q.2)).map λp:Bool × Hp=>(!p.1,p.2)
  cases truth q.2 q.1 <;> rfl
theorem tv_not {P:Prg} {call:CallF} {a:E} {s:En} {H:Hp}:tv P call (.not a) s H=(tv P call a s H).map λp=>(!p.1,p.2):=not_O (ev P call a s H)
theorem and_O (f:Hp→Option (V × Hp)) (o:Option (V × Hp)):(match (match o with | some (u,h)=>(match truth h u with | some true=>f h | some false=>some (u,h) | Option.none=>Option.none) | _=>Option.none) with | some (v,h)=>(truth h v).map λb=>(b,h) | Option.none=>Option.none) =
  (match (match o with | some (v,h)=>(truth h v).map λb=>(b,h) | Option.none=>Option.none) with
  | some (true,H)=>(match f H with | some (v,h)=>(truth h v).map λb=>(b,h) | Option.none=>Option.none)
  | some (false,H)=>some (false,H)
  | Option.none=>Option.none):=by
 cases o with
 | none=>rfl
 | some q =>
  obtain ⟨u,H1⟩:=q
  dsimp only
  cases h:truth H1 u with
  | none=>rfl
  | some c =>
   cases c with
   | true=>rfl
   | false=>dsimp only;rw [h];rfl
theorem tv_and {P:Prg} {call:CallF} {a b:E} {s:En} {H:Hp}:tv P call (.and a b) s H=(match tv P call a s H with
  | some (true,H)=>tv P call b s H
  | some (false,H)=>some (false,H)
  | Option.none=>Option.none):=and_O (λh=>ev P call b s h) (ev P call a s H)
theorem or_O (f:Hp→Option (V × Hp)) (o:Option (V × Hp)):(match (match o with | some (u,h)=>(match truth h u with | some true=>some (u,h) | some false=>f h | Option.none=>Option.none) | _=>Option.none) with | some (v,h)=>(truth h v).map λb=>(b,h) | Option.none=>Option.none) =
  (match (match o with | some (v,h)=>(truth h v).map λb=>(b,h) | Option.none=>Option.none) with
  | some (true,H)=>some (true,H)
  | some (false,H)=>(match f H with | some (v,h)=>(truth h v).map λb=>(b,h) | Option.none=>Option.none)
  | Option.none=>Option.none):=by
 cases o with
 | none=>rfl
 | some q =>
  obtain ⟨u,H1⟩:=q
  dsimp only
  cases h:truth H1 u with
  | none=>rfl
  | some c =>
   cases c with
   | false=>rfl
   | true=>dsimp only;rw [h];rfl
theorem tv_or {P:Prg} {call:CallF} {a b:E} {s:En} {H:Hp}:tv P call (.or a b) s H=(match tv P call a s H with
  | some (true,H)=>some (true,H)
  | some (false,H)=>tv P call b s H
  | Option.none=>Option.none):=or_O (λh=>ev P call b s h) (ev P call a s H)
theorem cmp_O (g:Hp→Option (V × Hp)) (f:V→V→Hp→Option Bool) (o:Option (V × Hp)):(match (match o with | some (u,h)=>(match g h with | some (v,h)=>(f u v h).map λb=>(V.bool b,h) | _=>Option.none) | _=>Option.none) with | some (v,h)=>(truth h v).map λb=>(b,h) | Option.none=>Option.none) =
  (match o with | some (u,h)=>(match g h with | some (v,h)=>(f u v h).map λb=>(b,h) | _=>Option.none) | _=>Option.none):=by
 cases o with
 | none=>rfl
 | some q =>
  show (match (match g q.2 with | some (v,h)=>(f q.1 v h).map λb=>(V.bool b,h) | _=>Option.none) with | some (v,h)=>(truth h v).map λb=>(b,h) | Option.none=>Option.none)=(match g q.2 with | some (v,h)=>(f q.1 v h).map λb=>(b,h) | _=>Option.none)
  cases g q.2 with
  | none=>rfl
  | some r =>
   show (match ((f q.1 r.1 r.2).map λb=>(V.bool b,r.2)) with | some (v,h)=>(truth h v).map λb=>(b,h) | Option.none=>Option.none)=(f q.1 r.1 r.2).map λb=>(b,r.2)
   cases f q.1 r.1 r.2 <;> rfl
theorem isIn_O (g:Hp→Option (V × Hp)) (f:V→V→Hp→Option (V × Hp)) (o:Option (V × Hp)):(match (match o with | some (u,h)=>(match g h with | some (v,h)=>f u v h | _=>Option.none) | _=>Option.none) with | some (v,h)=>(truth h v).map λb=>(b,h) | Option.none=>Option.none) =
  (match o with | some (u,h)=>(match g h with | some (v,h)=>(f u v h).bind λq=>(truth q.2 q.1).map λb=>(b,q.2) | _=>Option.none) | _=>Option.none):=by
 cases o with
 | none=>rfl
 | some q =>
  show (match (match g q.2 with | some (v,h)=>f q.1 v h | _=>Option.none) with | some (v,h)=>(truth h v).map λb=>(b,h) | Option.none=>Option.none)=(match g q.2 with | some (v,h)=>(f q.1 v h).bind λq=>(truth q.2 q.1).map λb=>(b,q.2) | _=>Option.none)
  cases g q.2 with
  | none=>rfl
  | some r =>
   show (match f q.1 r.1 r.2 with | some (v,h)=>(truth h v).map λb=>(b,h) | Option.none=>Option.none)=(f q.1 r.1 r.2).bind λq=>(truth q.2 q.1).map λb=>(b,q.2)
   cases f q.1 r.1 r.2 <;> rfl
theorem is_O (f:V→Bool) (o:Option (V × Hp)):(match (match o with | some (u,h)=>some (V.bool (f u),h) | _=>Option.none) with | some (v,h)=>(truth h v).map λb=>(b,h) | Option.none=>Option.none)=(match o with | some (u,h)=>some (f u,h) | _=>Option.none):=by
 cases o <;> rfl
noncomputable def TC.T (c:TC) (env:Env) (T:Tb) (r:En→Hp→Option (Bool × Hp)) (t:Sem Bool):Prop:=TestAt c.prog c.w c.nm ⟨c.cc,c.fr⟩ c.A c.h₀ c.L env T r t
noncomputable def PT (c:TC) (e:E):Prop:=∀ (T:Tb) (y:PySem.Expr) (env:Env),chkE e T y=true→c.G T env→c.T env T (λs H=>tv c.P c.call e s H) (isTrue y env (eval y env))
theorem TC.T.at {c:TC} {env:Env} {T:Tb} {r:En→Hp→Option (Bool × Hp)} {y y':PySem.Expr} (e:y=y') (h:c.T env T r (isTrue y' env (eval y' env))):c.T env T r (isTrue y env (eval y env)):=e ▸ h
theorem pl_of {k:Nat} {y:PySem.Expr} (h:(y.ctorIdx == k)=true) (p:plainIdx k=true):plainIdx y.ctorIdx=true:=(eq_of_beq h).symm ▸ p
section
variable {c:TC} {a b:E} {as:Es}
theorem T_plain {e:E} (p:∀ T y,chkE e T y=true→plainIdx y.ctorIdx=true):PT c e:=λT y env h G=>t_plain (soundE c e T y env h G) (plain_eq (p T y h) env)
theorem T_no {e:E} (p:∀ s H,tv c.P c.call e s H=none):PT c e:=λT y env h G s H b H' hv=>nomatch (p s H).symm.trans hv
theorem rest_test {y:PySem.Expr} {o:BoolOp} {env:Env} {T:Tb} {q t:PySem.Expr} {ts:List PySem.Expr} {r:En→Hp→Option (Bool × Hp)} (h:(vx y).l=q :: t :: ts) (k:c.T env T r (isTrue (bRest y o) env (eval (bRest y o) env))):c.T env T r (allTrue o (t :: ts) env):=by
 unfold bRest at k
 rw [h] at k
 cases ts with
 | nil=>exact t_last k
 | cons=>exact k
theorem T_and (ha:PT c a) (hb:PT c b):PT c (.and a b):=λT y env h G=>by
 obtain ⟨h1,h2,h3⟩:=band3 h
 obtain ⟨t,ts,e,e2⟩:=isB_eq h1
 exact .at e ((t_more (op:=.And) (ha T _ env h2 G) (rest_test e2 (hb T _ env h3 G))).congr λs H=>tv_and)
theorem T_or (ha:PT c a) (hb:PT c b):PT c (.or a b):=λT y env h G=>by
 obtain ⟨h1,h2,h3⟩:=band3 h
 obtain ⟨t,ts,e,e2⟩:=isB_eq h1
 exact .at e ((t_more (op:=.Or) (ha T _ env h2 G) (rest_test e2 (hb T _ env h3 G))).congr λs H=>tv_or)
theorem T_not (ha:PT c a):PT c (.not a):=λT y env h G=>.at (isUo_eq (band h).1) ((t_not (ha T _ env (band h).2 G)).congr λs H=>tv_not)
theorem T_cmp {op:Cop}:PT c (.cmp op a b):=λT y env h G=>by
 obtain ⟨h1,h2,h3,h4,h5⟩:=band5 h
 have e:=copIs_eq h2
 exact .at ((isK_eq h1).trans (by rw [e])) ((t_cmp G.C0.hu (soundE c a T _ env h4 G) (soundE c b T _ env h5 G) (e ▸ bnot h3)).congr λs H=>cmp_O (λh=>ev c.P c.call b s h) (cop op) (ev c.P c.call a s H))
theorem T_isNone:PT c (.isNone a):=λT y env h G=>by
 obtain ⟨h1,h2,h3,h4⟩:=band4 h
 exact .at ((isK_eq h1).trans (by rw [of_decide_eq_true h2,isC_eq h3])) ((t_isNone (soundE c a T _ env h4 G)).congr λs H=>is_O (λu=>u == .none) (ev c.P c.call a s H))
theorem T_notNone:PT c (.notNone a):=λT y env h G=>by
 obtain ⟨h1,h2,h3,h4⟩:=band4 h
 exact .at ((isK_eq h1).trans (by rw [of_decide_eq_true h2,isC_eq h3])) ((t_notNone (soundE c a T _ env h4 G)).congr λs H=>is_O (λu=>u != .none) (ev c.P c.call a s H))
theorem T_isIn:PT c (.isIn a b):=λT y env h G=>by
 obtain ⟨h1,h2,h3,h4,h5⟩:=band5 h
 exact .at ((isK_eq h1).trans (by rw [of_decide_eq_true h2])) ((t_isIn (soundE c a T _ env h4 G) (soundE c b T _ env h5 G) (bnot h3)).congr λs H=>isIn_O (λh=>ev c.P c.call b s h) isInF (ev c.P c.call a s H))
theorem T_N {e:E} {g:Tb→PySem.Expr→Bool} (k:Nat) (hk:plainIdx k=true) (q:∀ T y,chkE e T y=(y.ctorIdx == k && g T y)):PT c e:=T_plain λT y h=>pl_of (band ((q T y).symm.trans h)).1 hk
theorem T_1 {e:E} {f g:Tb→PySem.Expr→Bool} (k:Nat) (hk:plainIdx k=true) (q:∀ T y,chkE e T y=((y.ctorIdx == k && f T y) && g T y)):PT c e:=T_plain λT y h=>pl_of (band (band ((q T y).symm.trans h)).1).1 hk
theorem T_B {e:E} {x:Str} {g:Tb→PySem.Expr→Bool} (q:∀ T y,chkE e T y=(isB1 y T x && g T y)):PT c e:=T_plain λT y h=>pl_of (band (band (band ((q T y).symm.trans h)).1).1).1 rfl
theorem T_B2 {e:E} {x:Str} {g:Tb→PySem.Expr→Bool} (q:∀ T y,chkE e T y=(isB2 y T x && g T y)):PT c e:=T_plain λT y h=>pl_of (band (band (band ((q T y).symm.trans h)).1).1).1 rfl
theorem T_M {e:E} {x:Str} {g:Tb→PySem.Expr→Bool} (q:∀ T y,chkE e T y=(isM1 y x && g T y)):PT c e:=T_plain λT y h=>pl_of (band (band (band ((q T y).symm.trans h)).1).1).1 rfl
theorem soundT (c:TC) (e:E):PT c e :=
 @E.rec (PT c) (λ_=>True) (λx=>T_N 23 rfl λT y=>rfl) (λx=>T_N 23 rfl λT y=>rfl) (λi=>T_no λs H=>rfl) (λx i=>T_no λs H=>rfl) (λi=>T_no λs H=>rfl) (T_no λs H=>rfl)
  (λb=>T_N 19 rfl λT y=>rfl) (λb=>T_no λs H=>rfl) (λop a b _ _=>T_N 2 rfl λT y=>rfl) (λ_ _ _ _ _=>T_cmp) (λ_ _=>T_isNone) (λ_ _=>T_notNone) (λ_ _ _ _=>T_isIn) (λ_=>T_not) (λ_ _=>T_and) (λ_ _=>T_or)
  (λa n _=>T_N 20 rfl λT y=>rfl) (λa i _ _=>T_N 21 rfl λT y=>rfl) (λa k _=>T_N 21 rfl λT y=>rfl) (λa b _ _=>T_N 21 rfl λT y=>rfl) (λa _=>T_N 21 rfl λT y=>rfl)
  (λf as _=>T_1 16 rfl λT y=>rfl) (λk as _=>T_1 16 rfl λT y=>rfl) (λo m as _ _=>T_1 16 rfl λT y=>rfl) (λa _=>T_B λT y=>rfl) (λa _=>T_B λT y=>rfl) (λa b _ _=>T_B2 λT y=>rfl) (λa b _ _=>T_B2 λT y=>rfl)
  (λa _=>T_B λT y=>rfl) (λa _=>T_B λT y=>rfl) (λo a _ _=>T_M λT y=>rfl) (λo a _ _=>T_M λT y=>rfl) (λo a _ _=>T_M λT y=>rfl) (λo _=>T_1 16 rfl λT y=>rfl)
  (λas _=>T_N 24 rfl λT y=>rfl) (λas _=>T_N 25 rfl λT y=>rfl) (λks as _=>T_N 6 rfl λT y=>rfl) (λelt x cs it _ _=>T_1 8 rfl λT y=>rfl) (λ_ _ _ _ _ _ _ _ _ _=>λ_ _ _ h _=>nomatch h) (T_no λs H=>rfl) trivial (λ_ _ _ _=>trivial) e
end
noncomputable def allN (l:List PySem.Expr):Bool:=l.all isN
noncomputable def ids (l:List PySem.Expr):List (Str × Pos):=l.map λe=>((vx e).s,(vx e).p)
theorem ids_eq:∀ {l:List PySem.Expr},allN l=true→l=namesOf (ids l)
 | [],_=>rfl
 | e :: r,h=>by
  obtain ⟨h1,h2⟩:=band h
  show e :: r=PySem.Expr.Name (vx e).s (vx e).p :: namesOf (ids r)
  rw [← ids_eq h2,← isN_eq h1]
noncomputable def isInt (e:E) (i:Int):Bool:=E.casesOn e (λ_=>false) (λ_=>false) (λj=>i == j) (λ_ _=>false) (λ_=>false) false (λ_=>false) (λ_=>false) (λ_ _ _=>false) (λ_ _ _=>false) (λ_=>false) (λ_=>false) (λ_ _=>false) (λ_=>false) (λ_ _=>false) (λ_ _=>false) (λ_ _=>false) (λ_ _=>false) (λ_ _=>false) (λ_ _=>false) (λ_=>false) (λ_ _=>false) (λ_ _=>false) (λ_ _ _=>false) (λ_=>false) (λ_=>false) (λ_ _=>false) (λ_ _=>false) (λ_=>false) (λ_=>false) (λ_ _=>false) (λ_ _=>false) (λ_ _=>false) (λ_=>false) (λ_=>false) (λ_=>false) (λ_ _=>false) (λ_ _ _ _=>false) (λ_ _ _ _ _ _=>false) false
theorem isInt_eq {e:E} {i:Int} (h:isInt e i=true):e = .int i:=by
 induction e using E.casesOn <;> first | exact nomatch (show false=true from h) | exact congrArg E.int (eq_of_beq h).symm
noncomputable def isVar (r:E):Option Nat:=E.casesOn r some (λ_=>.none) (λ_=>.none) (λ_ _=>.none) (λ_=>.none) .none (λ_=>.none) (λ_=>.none) (λ_ _ _=>.none) (λ_ _ _=>.none) (λ_=>.none) (λ_=>.none) (λ_ _=>.none) (λ_=>.none) (λ_ _=>.none) (λ_ _=>.none) (λ_ _=>.none) (λ_ _=>.none) (λ_ _=>.none) (λ_ _=>.none) (λ_=>.none) (λ_ _=>.none) (λ_ _=>.none) (λ_ _ _=>.none) (λ_=>.none) (λ_=>.none) (λ_ _=>.none) (λ_ _=>.none) (λ_=>.none) (λ_=>.none) (λ_ _=>.none) (λ_ _=>.none) (λ_ _=>.none) (λ_=>.none) (λ_=>.none) (λ_=>.none) (λ_ _=>.none) (λ_ _ _ _=>.none) (λ_ _ _ _ _ _=>.none) .none
noncomputable def notVar (r:E):Option Nat:=E.casesOn r (λ_=>.none) (λ_=>.none) (λ_=>.none) (λ_ _=>.none) (λ_=>.none) .none (λ_=>.none) (λ_=>.none) (λ_ _ _=>.none) (λ_ _ _=>.none) (λ_=>.none) (λ_=>.none) (λ_ _=>.none) isVar (λ_ _=>.none) (λ_ _=>.none) (λ_ _=>.none) (λ_ _=>.none) (λ_ _=>.none) (λ_ _=>.none) (λ_=>.none) (λ_ _=>.none) (λ_ _=>.none) (λ_ _ _=>.none) (λ_=>.none) (λ_=>.none) (λ_ _=>.none) (λ_ _=>.none) (λ_=>.none) (λ_=>.none) (λ_ _=>.none) (λ_ _=>.none) (λ_ _=>.none) (λ_=>.none) (λ_=>.none) (λ_=>.none) (λ_ _=>.none) (λ_ _ _ _=>.none) (λ_ _ _ _ _ _=>.none) .none
theorem notVar_eq {r:E} {k:Nat} (h:notVar r=some k):r = .not (.var k):=by
 induction r using E.casesOn <;> first | exact nomatch (show Option.none=some k from h) | skip
 rename_i a
 induction a using E.casesOn <;> first | exact nomatch (show Option.none=some k from h) | (cases h;rfl)
noncomputable def hd3 (l:List PySem.Expr):PySem.Expr:=l.tail.tail.headD default
theorem three_of {α:Type} [Inhabited α]:∀ {l:List α},(l.length == 3)=true→l = [l.headD default,l.tail.headD default,l.tail.tail.headD default]
 | [_,_,_],_=>rfl
 | [],h=>nomatch h
 | [_],h=>nomatch h
 | [_,_],h=>nomatch h
 | _ :: _ :: _ :: _ :: _,h=>absurd (eq_of_beq h) (by trivial)
noncomputable def chkR (a b c:E) (T:Tb) (y:PySem.Expr):Bool:=isCN y && (T.glb (cn y) && (decide (cn y = "range") &&
 (((vx y).l.length == 1 && (isInt a 0 && (isInt c 1 && (!starLike (hd (vx y).l) && chkE b T (hd (vx y).l))))) ||
  (((vx y).l.length == 2 && (isInt c 1 && (!starLike (hd (vx y).l) && (!starLike (hd2 (vx y).l) && (chkE a T (hd (vx y).l) && chkE b T (hd2 (vx y).l)))))) ||
  ((vx y).l.length == 3 && (!starLike (hd (vx y).l) && (!starLike (hd2 (vx y).l) && (!starLike (hd3 (vx y).l) && (chkE a T (hd (vx y).l) && (chkE b T (hd2 (vx y).l) && chkE c T (hd3 (vx y).l)))))))))))
noncomputable def sh (l:List Stmt):Stmt:=l.headD default
noncomputable def chkHdl (r:Option E) (y:Nat) (T:Tb) (l:List Stmt):Bool:=l.length == 1 && (match r with
 | some r=>(sh l).ctorIdx == 3 && ((vs (sh l)).o1.isSome && (isUo ((vs (sh l)).o1.getD default) .Not && (isN (vx ((vs (sh l)).o1.getD default)).x && (notVar r).any λk=>T.loc k (vx (vx ((vs (sh l)).o1.getD default)).x).s)))
 | Option.none=>(sh l).ctorIdx == 5 && ((vs (sh l)).l.length == 1 && (isN (hd (vs (sh l)).l) && (isC (vs (sh l)).x .none && T.loc y (vx (hd (vs (sh l)).l)).s))))
noncomputable def swapOk (T:Tb) (id:Str) (pl l:Nat) (scope:Scope):Bool:=pl == l && !(scope.names.any fun (n,k)=>n == id && (k == .local || k == .cell))
noncomputable def isA1 (y:Stmt):Bool:=y.ctorIdx == 5 && (vs y).l.length == 1
noncomputable def tg (y:Stmt):PySem.Expr:=hd (vs y).l
theorem isA1_eq {y:Stmt} (h:isA1 y=true):y = .Assign [tg y] (vs y).x (vs y).p:=by
 obtain ⟨h1,h2⟩:=band h
 unfold tg hd
 rw [← one_of h2];exact is_Assign (eq_of_beq h1)
noncomputable def isW (y:Stmt) (k:Nat):Bool:=y.ctorIdx == k && (vs y).b2.isEmpty
noncomputable def hT:ExceptHandler→Option PySem.Expr | .ExceptHandler t _ _ _=>t
noncomputable def hN:ExceptHandler→Option Str | .ExceptHandler _ n _ _=>n
noncomputable def hB:ExceptHandler→List Stmt | .ExceptHandler _ _ b _=>b
noncomputable def hP:ExceptHandler→Pos | .ExceptHandler _ _ _ p=>p
theorem h_eta (x:ExceptHandler):x = .ExceptHandler (hT x) (hN x) (hB x) (hP x):=by cases x;rfl
noncomputable def hx (y:Stmt):ExceptHandler:=(vs y).hs.headD (.ExceptHandler none none [] default)
theorem one_hs:∀ {l:List ExceptHandler},(l.length == 1)=true→l = [l.headD (.ExceptHandler none none [] default)]
 | [_],_=>rfl
 | [],h=>nomatch h
 | _ :: _ :: _,h=>absurd (eq_of_beq h) (by trivial)
noncomputable def isTry (y:Stmt) (k:Nat):Bool:=y.ctorIdx == 17 && ((vs y).b2.isEmpty && ((vs y).b3.isEmpty && ((vs y).b1.length == 1 && ((vs y).hs.length == 1 && ((sh (vs y).b1).ctorIdx == k && ((hT (hx y)).isSome && ((hN (hx y)).isNone && isN ((hT (hx y)).getD default))))))))
noncomputable def hC (y:Stmt):Str:=(vx ((hT (hx y)).getD default)).s
theorem noneS_of {α:Type} {o:Option α} (h:o.isNone=true):o=none:=by
 cases o with
 | none=>rfl
 | some=>cases h
theorem isTry_eq {y:Stmt} {k:Nat} (h:isTry y k=true):y = .Try [sh (vs y).b1] [.ExceptHandler (some (.Name (hC y) (vx ((hT (hx y)).getD default)).p)) none (hB (hx y)) (hP (hx y))] [] [] (vs y).p∧(sh (vs y).b1).ctorIdx=k:=by
 obtain ⟨h1,h2,h3,h4,h5,h6,h7,h⟩:=band8 h
 obtain ⟨h8,h9⟩:=band h
 refine ⟨?_,eq_of_beq h6⟩
 unfold hC sh
 rw [← isN_eq h9,← some_of h7,← noneS_of h8,← h_eta]
 unfold hx
 rw [← one_hs h5,← one_of h4]
 refine (is_Try (eq_of_beq h1)).trans ?_
 rw [List.isEmpty_iff.mp h2,List.isEmpty_iff.mp h3]
noncomputable def chkM (o:E) (m:Nat) (as:Es) (T:Tb) (x:PySem.Expr):Bool:=isCA x && (decide (cam x=T.nm m) && (decide (m < 100) && (!superLike (cao x) && (isStarLess (vx x).l && (decide ((vx x).l.length < 30) && (chkE o T (cao x) && chkEs as T (vx x).l))))))
noncomputable def chkC (e:E) (T:Tb) (x:PySem.Expr):Bool:=E.casesOn e (λ_=>false) (λ_=>false) (λ_=>false) (λ_ _=>false) (λ_=>false) false (λ_=>false) (λ_=>false) (λ_ _ _=>false) (λ_ _ _=>false) (λ_=>false) (λ_=>false) (λ_ _=>false) (λ_=>false) (λ_ _=>false) (λ_ _=>false) (λ_ _=>false) (λ_ _=>false) (λ_ _=>false) (λ_ _=>false) (λ_=>false) (λ_ _=>false) (λ_ _=>false) (λ_ _ _=>false) (λ_=>false) (λ_=>false) (λ_ _=>false) (λ_ _=>false) (λ_=>false) (λ_=>false) (λ_ _=>false) (λ_ _=>false) (λ_ _=>false) (λ_=>false) (λ_=>false) (λ_=>false) (λ_ _=>false) (λelt sx cs it=>compOk T sx cs (lcZ x) (vx x).sc && (chkE it T (lcG x).iter && chkE elt (T.comp sx (lcZ x) (vx x).sc) (vx x).x)) (λelt sx cs a b c=>compOk T sx cs (lcZ x) (vx x).sc && (chkR a b c T (lcG x).iter && chkE elt (T.comp sx (lcZ x) (vx x).sc) (vx x).x)) false
noncomputable def strOf:Const→Str | .str s=>s | _=>default
mutual
noncomputable def chkS:S→Tb→Stmt→Bool
 | .assign x e,T,y=>isA1 y && (isN (tg y) && (T.loc x (vx (tg y)).s && (noSwap (vs y).x && chkE e T (vs y).x)))
 | .assignComp x e,T,y=>isA1 y && (isN (tg y) && (isLC (vs y).x && (T.loc x (vx (tg y)).s && (swapOk T (vx (tg y)).s (vx (tg y)).p.line (vx (vs y).x).p.line (vx (vs y).x).sc && (!setLike (lcG (vs y).x).iter && chkC e T (vs y).x)))))
 | .cassign x e,T,y=>isA1 y && (isN (tg y) && (T.cel x (vx (tg y)).s && (noSwap (vs y).x && chkE e T (vs y).x)))
 | .unpack xs e,T,y=>isA1 y && ((tg y).ctorIdx == 25 && (allN (vx (tg y)).l && (locs T xs (ids (vx (tg y)).l) && (noSwap (vs y).x && (notSeq (vs y).x && chkE e T (vs y).x)))))
 | .setattr o n e,T,y=>isA1 y && ((tg y).ctorIdx == 20 && (decide ((vx (tg y)).s=T.nm n) && (decide (n < 100) && (noSwap (vs y).x && (chkE e T (vs y).x && chkE o T (vx (tg y)).x)))))
 | .setidx o i e,T,y=>isA1 y && ((tg y).ctorIdx == 21 && (noSwap (vs y).x && (chkE e T (vs y).x && (chkE o T (vx (tg y)).x && chkE i T (vx (tg y)).z))))
 | .aug x op e,T,y=>y.ctorIdx == 7 && (isN (vs y).x && (T.loc x (vx (vs y).x).s && (bopIs op (vs y).op && (augOk op && chkE e T (vs y).z))))
 | .augattr o n op e,T,y=>y.ctorIdx == 7 && ((vs y).x.ctorIdx == 20 && (decide ((vx (vs y).x).s=T.nm n) && (decide (n < 100) && (bopIs op (vs y).op && (augOk op && (chkE e T (vs y).z && chkE o T (vx (vs y).x).x))))))
 | .expr e,T,y=>y.ctorIdx == 24 && (noSwap (vs y).x && chkE e T (vs y).x)
 | .ite c a b,T,y=>y.ctorIdx == 12 && (chkE c T (vs y).x && (chkSs a T (vs y).b1 && chkSs b T (vs y).b2))
 | .while c b,T,y=>isW y 11 && (chkE c T (vs y).x && chkSs b T (vs y).b1)
 | .for x it b,T,y=>isW y 9 && (isN (vs y).x && (T.loc x (vx (vs y).x).s && (!setLike (vs y).z && (chkE it T (vs y).z && chkSs b T (vs y).b1))))
 | .forT xs it b,T,y=>isW y 9 && ((vs y).x.ctorIdx == 25 && (allN (vx (vs y).x).l && (locs T xs (ids (vx (vs y).x).l) && (!setLike (vs y).z && (chkE it T (vs y).z && chkSs b T (vs y).b1)))))
 | .forR x a b c body,T,y=>isW y 9 && (isN (vs y).x && (T.loc x (vx (vs y).x).s && (!setLike (vs y).z && (chkR a b c T (vs y).z && chkSs body T (vs y).b1))))
 | .ret e,T,y=>y.ctorIdx == 3 && ((vs y).o1.isSome && chkE e T ((vs y).o1.getD default))
 | .ret0,T,y=>y.ctorIdx == 3 && (vs y).o1.isNone
 | .raise c,T,y=>y.ctorIdx == 16 && ((vs y).o2.isNone && ((vs y).o1.isSome && (isCN ((vs y).o1.getD default) && (T.glb (cn ((vs y).o1.getD default)) && (decide (T.ex c=some (cn ((vs y).o1.getD default))) &&
  ((vx ((vs y).o1.getD default)).l.length == 1 && isC (hd (vx ((vs y).o1.getD default)).l) (.str (strOf (vx (hd (vx ((vs y).o1.getD default)).l)).c))))))))
 | .tryE o m as c r,T,y=>isTry y 24 && (chkM o m as T (vs (sh (vs y).b1)).x && (T.glb (hC y) && (decide (T.ex c=some (hC y)) && chkHdl (some r) 0 T (hB (hx y)))))
 | .tryA z o m as c hret k,T,y=>isTry y 5 && (isA1 (sh (vs y).b1) && (isN (tg (sh (vs y).b1)) && (T.loc z (vx (tg (sh (vs y).b1))).s && (chkM o m as T (vs (sh (vs y).b1)).x && (T.glb (hC y) && (decide (T.ex c=some (hC y)) && chkHdl hret k T (hB (hx y))))))))
 | .delidx o i,T,y=>y.ctorIdx == 4 && ((vs y).l.length == 1 && ((tg y).ctorIdx == 21 && (chkE o T (vx (tg y)).x && chkE i T (vx (tg y)).z)))
 | .brk,T,y=>y.ctorIdx == 26
 | .pass,T,y=>y.ctorIdx == 25
 | .bad,T,y=>true
noncomputable def chkSs:Ss→Tb→List Stmt→Bool
 | .nil,T,l=>l.isEmpty
 | .cons s ss,T,l=>!l.isEmpty && (chkS s T (sh l) && chkSs ss T l.tail)
end
noncomputable def TC.St (c:TC) (T:Tb) (r:En→Hp→SRes) (t:Sem Flow):Prop:=StmtAt c.prog c.w c.nm ⟨c.cc,c.fr⟩ c.A c.h₀ c.L c.fenv T r t
noncomputable def PS (c:TC) (s:S):Prop:=∀ (T:Tb) (y:Stmt),chkS s T y=true→c.G T c.fenv→T.Ok→c.St T (λe H=>ex c.P c.call s e H) (exec y c.fenv)
noncomputable def PSs (c:TC) (s:Ss):Prop:=∀ (T:Tb) (l:List Stmt),chkSs s T l=true→c.G T c.fenv→T.Ok→c.St T (λe H=>exs c.P c.call s e H) (execs l c.fenv)
theorem TC.St.at {c:TC} {T:Tb} {r:En→Hp→SRes} {y y':Stmt} (e:y=y') (h:c.St T r (exec y' c.fenv)):c.St T r (exec y c.fenv):=e ▸ h
theorem a1N {y:Stmt} (h1:isA1 y=true) (h2:isN (tg y)=true):y = .Assign [.Name (vx (tg y)).s (vx (tg y)).p] (vs y).x (vs y).p:=(isA1_eq h1).trans (congrArg (λz=>Stmt.Assign [z] _ _) (isN_eq h2))
theorem consS_of {l:List Stmt} (h:(!l.isEmpty)=true):l=sh l :: l.tail:=by
 cases l with
 | nil=>cases h
 | cons=>rfl
section
variable {c:TC} {a b d:E} {A B:Ss}
theorem soundR {T:Tb} {y:PySem.Expr} {env:Env} (h:chkR a b d T y=true) (G:c.G T env) :
  RngOk c.prog c.w c.nm ⟨c.cc,c.fr⟩ c.A c.h₀ c.L env T (λs H=>ev c.P c.call a s H) (λs H=>ev c.P c.call b s H) (λs H=>ev c.P c.call d s H) (eval y env):=by
 have hr:nsIn c.K mainGlobals "range"=some none:=c.KO.hbn _ (by decide)
 obtain ⟨h1,h2,h3,h⟩:=band4 h
 have e:=isCN_eq h1
 rw [of_decide_eq_true h3] at e h2
 rcases Bool.or_eq_true_iff.mp h with h | h
 ·obtain ⟨h4,h5,h6,h7,h8⟩:=band5 h
  rw [e,one_of h4,isInt_eq h5,isInt_eq h6]
  exact rng1 G.C0 G.names h2 hr (bnot h7) (soundE c b T _ env h8 G)
 ·rcases Bool.or_eq_true_iff.mp h with h | h
  ·obtain ⟨h4,h5,h6,h7,h8,h9⟩:=band6 h
   rw [e,two_of h4,isInt_eq h5]
   exact rng2 G.C0 G.names h2 hr (bnot h6) (soundE c a T _ env h8 G) (bnot h7) (soundE c b T _ env h9 G)
  ·obtain ⟨h4,h5,h6,h7,h8,h9,h10⟩:=band7 h
   rw [e,three_of h4]
   exact rng3 G.C0 G.names h2 hr (bnot h5) (soundE c a T _ env h8 G) (bnot h6) (soundE c b T _ env h9 G) (bnot h7) (soundE c d T _ env h10 G)
theorem loc_parts {T:Tb} {x:Nat} {id:Str} (h:T.loc x id=true):id=T.sn x∧T.names.lookup id=some .local:=by
 obtain ⟨h,_⟩:=band h
 obtain ⟨h1,h2⟩:=band h
 exact ⟨beq_true_iff h1,eq_of_beq h2⟩
theorem swap_of {T:Tb} (G:c.G T c.fenv) {x:Nat} {id:Str} {py pos spos:Pos} {el iter:PySem.Expr} {z:Str} {px:Pos} {scope:Scope} (h1:T.loc x id=true) (h2:swapOk T id py.line pos.line scope=true) :
  swapsWith (.ListComp el [⟨.Name z px,iter,[],0⟩] scope pos) (some (.Name id py)) spos.line c.fenv=pure true:=by
 obtain ⟨h2,h3⟩:=band h2
 have hk:c.fenv.kindOf id=some .local:=by unfold Env.kindOf;rw [← G.names];exact (loc_parts h1).2
 have hb:c.fenv.blockKind = .function:=by unfold Env.blockKind;rw [G.C0.hk];rfl
 show (pure (c.fenv.blockKind == .function && c.fenv.kindOf id == some .local && py.line == pos.line && !(scope.names.any fun (n,k)=>n == id && (k == .local || k == .cell))):Sem Bool)=pure true
 rw [hk,hb,h2,h3]
 rfl
theorem hdl_of {T:Tb} (G:c.G T c.fenv) (hOk:T.Ok) {r:Option E} {y:Nat} {l:List Stmt} (h:chkHdl r y T l=true) :
  HdlOk c.prog c.w c.nm ⟨c.cc,c.fr⟩ c.h₀ c.L c.fenv T (hdlF c.P c.call r y) [sh l]∧l = [sh l]:=by
 obtain ⟨h0,h⟩:=band h
 refine ⟨?_,one_of h0⟩
 cases r with
 | some r =>
  obtain ⟨h1,h2,h3,h4,h5⟩:=band5 h
  obtain ⟨k,hk,h6⟩:=any_some h5
  rw [notVar_eq hk,(is_Return (eq_of_beq h1)).trans (congrArg (λz=>Stmt.Return z _) ((some_of h2).trans (congrArg some ((isUo_eq h3).trans (congrArg (λz=>PySem.Expr.UnaryOp _ z _) (isN_eq h4))))))]
  exact hdl_ret G.C0.hk c.hl G.names h6
 | none =>
  obtain ⟨h1,h2,h3,h4,h5⟩:=band5 h
  have q:=a1N (y:=sh l) (by unfold isA1;rw [h1,h2];rfl) h3
  rw [q.trans (congrArg (λz=>Stmt.Assign _ z _) (isC_eq h4))]
  exact hdl_none G.C0.hk c.hl G.names hOk h5
theorem S_assign {x:Nat}:PS c (.assign x a):=λT y h G ok=>by
 obtain ⟨h1,h2,h3,h4,h5⟩:=band5 h
 exact .at (a1N h1 h2) (st_assign G.C0 c.hl G.names ok h3 (soundE c a T _ _ h5 G) h4)
theorem S_cassign {x:Nat}:PS c (.cassign x a):=λT y h G ok=>by
 obtain ⟨h1,h2,h3,h4,h5⟩:=band5 h
 exact .at (a1N h1 h2) (st_cassign G.C0 c.hl G.names h3 (soundE c a T _ _ h5 G) h4)
theorem S_compB {x:Nat} {T:Tb} {y:Stmt} (h1:isA1 y=true) (h2:isN (tg y)=true) (h3:isLC (vs y).x=true) (h4:T.loc x (vx (tg y)).s=true) (h5:swapOk T (vx (tg y)).s (vx (tg y)).p.line (vx (vs y).x).p.line (vx (vs y).x).sc=true) (h6:setLike (lcG (vs y).x).iter=false) (G:c.G T c.fenv) (ok:T.Ok):∀ a:E,chkC a T (vs y).x=true→c.St T (λe H=>ex c.P c.call (.assignComp x a) e H) (exec y c.fenv):=λa=>by
 have hp:(c.fenv.scope.kind == .class || (c.fenv.scope.kind == .module && c.fenv.locals != c.fenv.globals))=false:=by rw [G.C0.hk];rfl
 have hcl:=λx hx=>c.hcells x (by rw [← G.names];exact hx)
 obtain ⟨hid,hll⟩:=loc_parts h4
 have hy:c.fenv.kindOf (vx (tg y)).s=some .local:=by unfold Env.kindOf;rw [← G.names];exact hll
 have eq:=(a1N h1 h2).trans (congrArg (λz=>Stmt.Assign _ z _) (isLC_eq h3))
 induction a using E.casesOn <;> first | exact λh7=>nomatch (show false=true from h7) | skip
 ·rename_i elt sx cs it
  intro h7
  obtain ⟨g1,g2,g3⟩:=band3 h7
  refine .at eq ?_
  intro e H s m R X Q E hR hE k
  obtain ⟨v,H2,hv,k⟩:=invK k
  obtain ⟨r,l,H1,hit,hlr,hcap,hv⟩:=compL_some hv
  refine x_compL (F:=λe v H=>ev c.P c.call elt (put (maskE cs e) sx v) H) G.C0.hh c.hl (scOk_of G.C0.hk hcl g1) (λe=>elt_of G.C0.hk G.names g1 e λz=>soundE c elt (T.comp sx _ _) _ _ g3
   ⟨comp_cx0 G.C0 (compOk_parts g1).1,comp_names G.names G.C0.hk,G.tnm,G.tgi,G.tfn,G.tcl,G.tex,λq=>nomatch q⟩) h6 (soundE c it T _ _ g2 G) (swap_of G h4 h5) hy hp hit hlr hcap hv hR (hE.toN c.hl) λh' tk R' u hR' e1 vu=>?_
  exact k h' tk _ R' hR' e1 (by rw [hid];exact (hE.mono e1).put ok (hid ▸ hll) vu)
 ·rename_i elt sx cs a b d
  intro h7
  obtain ⟨g1,g2,g3⟩:=band3 h7
  refine .at eq ?_
  intro e H s m R X Q E hR hE k
  obtain ⟨v,H4,hv,k⟩:=invK k
  obtain ⟨i,H1,hi,hv⟩:=int_some hv
  obtain ⟨j,H2,hj,hv⟩:=int_some hv
  obtain ⟨kk,H3,hkk,hv⟩:=int_some hv
  obtain ⟨hok,hv⟩:=iteO hv
  obtain ⟨o1,o2⟩:=band hok
  refine x_compR (F:=λe v H=>ev c.P c.call elt (put (maskE cs e) sx v) H) G.C0.hh c.hl (scOk_of G.C0.hk hcl g1) (λe=>elt_of G.C0.hk G.names g1 e λz=>soundE c elt (T.comp sx _ _) _ _ g3
   ⟨comp_cx0 G.C0 (compOk_parts g1).1,comp_names G.names G.C0.hk,G.tnm,G.tgi,G.tfn,G.tcl,G.tex,λq=>nomatch q⟩) h6 (soundR g2 G) (swap_of G h4 h5) hy hp hi hj hkk o1 (of_decide_eq_true o2) hv hR (hE.toN c.hl) λh' tk R' u hR' e1 vu=>?_
  exact k h' tk _ R' hR' e1 (by rw [hid];exact (hE.mono e1).put ok (hid ▸ hll) vu)
theorem S_comp {x:Nat}:PS c (.assignComp x a):=λT y h G ok=>by
 obtain ⟨h1,h2,h3,h4,h5,h6,h7⟩:=band7 h
 exact S_compB h1 h2 h3 h4 h5 (bnot h6) G ok a h7
theorem S_unpack {xs:List Nat}:PS c (.unpack xs a):=λT y h G ok=>by
 obtain ⟨h1,h2,h3,h4,h5,h6,h7⟩:=band7 h
 exact .at ((isA1_eq h1).trans (congrArg (λz=>Stmt.Assign [z] _ _) ((is_Tuple (eq_of_beq h2)).trans (congrArg (λz=>PySem.Expr.Tuple z _ _) (ids_eq h3))))) (st_unpack G.C0 c.hl G.names ok h4 (soundE c a T _ _ h7 G) h5 h6)
theorem S_setattr {n:Nat}:PS c (.setattr b n a):=λT y h G ok=>by
 obtain ⟨h1,h2,h3,h4,h5,h6,h7⟩:=band7 h
 exact .at ((isA1_eq h1).trans (congrArg (λz=>Stmt.Assign [z] _ _) ((is_Attribute (eq_of_beq h2)).trans (by rw [of_decide_eq_true h3,G.tnm])))) (st_setattr (ca:=⟨c.cc,c.fr⟩) G.C0 c.hl c.KO.hnm c.KO.hfld (of_decide_eq_true h4) (soundE c a T _ _ h6 G) (soundE c b T _ _ h7 G) h5)
theorem S_setidx:PS c (.setidx b d a):=λT y h G ok=>by
 obtain ⟨h1,h2,h3,h4,h5,h6⟩:=band6 h
 exact .at ((isA1_eq h1).trans (congrArg (λz=>Stmt.Assign [z] _ _) (is_Subscript (eq_of_beq h2)))) (st_setidx c.hl (soundE c a T _ _ h4 G) (soundE c b T _ _ h5 G) (soundE c d T _ _ h6 G) h3)
theorem S_aug {x:Nat} {op:Bop}:PS c (.aug x op a):=λT y h G ok=>by
 obtain ⟨h1,h2,h3,h4,h5,h6⟩:=band6 h
 exact .at ((is_AugAssign (eq_of_beq h1)).trans ((congrArg (λz=>Stmt.AugAssign z _ _ _) (isN_eq h2)).trans (congrArg (λz=>Stmt.AugAssign _ z _ _) (bopIs_eq h4)))) (st_aug G.C0 c.hl G.names ok h3 h5 (soundE c a T _ _ h6 G))
theorem S_augattr {n:Nat} {op:Bop}:PS c (.augattr b n op a):=λT y h G ok=>by
 obtain ⟨h1,h2,h3,h4,h5,h6,h7,h8⟩:=band8 h
 exact .at ((is_AugAssign (eq_of_beq h1)).trans ((congrArg (λz=>Stmt.AugAssign z _ _ _) ((is_Attribute (eq_of_beq h2)).trans (by rw [of_decide_eq_true h3,G.tnm]))).trans (congrArg (λz=>Stmt.AugAssign _ z _ _) (bopIs_eq h5)))) (st_augattr (ca:=⟨c.cc,c.fr⟩) G.C0 c.hl c.KO.hnm c.KO.hfld (of_decide_eq_true h4) h6 (soundE c a T _ _ h7 G) (soundE c b T _ _ h8 G))
theorem S_expr:PS c (.expr a):=λT y h G ok=>by
 obtain ⟨h1,h2,h3⟩:=band3 h
 exact .at (is_Expr (eq_of_beq h1)) (st_expr G.C0 c.hl (soundE c a T _ _ h3 G) h2)
theorem S_ite (ha:PSs c A) (hb:PSs c B):PS c (.ite a A B):=λT y h G ok=>by
 obtain ⟨h1,h2,h3,h4⟩:=band4 h
 exact .at (is_If (eq_of_beq h1)) (st_ite c.hl (soundT c a T _ _ h2 G) (ha T _ h3 G ok) (hb T _ h4 G ok))
theorem S_while (ha:PSs c A):PS c (.while a A):=λT y h G ok=>by
 obtain ⟨h1,h2,h3⟩:=band3 h
 obtain ⟨h4,h5⟩:=band h1
 exact .at ((is_While (eq_of_beq h4)).trans (congrArg (λz=>Stmt.While _ _ z _) (List.isEmpty_iff.mp h5))) (st_while c.hl (soundT c a T _ _ h2 G) (ha T _ h3 G ok) capL)
theorem isFor_eq {y:Stmt} (h:isW y 9=true):y = .For (vs y).x (vs y).z (vs y).b1 [] (vs y).p:=by
 obtain ⟨h4,h5⟩:=band h
 exact (is_For (eq_of_beq h4)).trans (congrArg (λz=>Stmt.For _ _ _ z _) (List.isEmpty_iff.mp h5))
theorem S_for {x:Nat} (ha:PSs c A):PS c (.for x a A):=λT y h G ok=>by
 obtain ⟨h1,h2,h3,h4,h5,h6⟩:=band6 h
 exact .at ((isFor_eq h1).trans (congrArg (λz=>Stmt.For z _ _ _ _) (isN_eq h2))) (st_for G.C0 c.hl G.names ok h3 (bnot h4) (soundE c a T _ _ h5 G) (ha T _ h6 G ok) capL)
theorem S_forT {xs:List Nat} (ha:PSs c A):PS c (.forT xs a A):=λT y h G ok=>by
 obtain ⟨h1,h2,h3,h4,h5,h6,h7⟩:=band7 h
 exact .at ((isFor_eq h1).trans (congrArg (λz=>Stmt.For z _ _ _ _) ((is_Tuple (eq_of_beq h2)).trans (congrArg (λz=>PySem.Expr.Tuple z _ _) (ids_eq h3))))) (st_forT G.C0 c.hl G.names ok h4 (bnot h5) (soundE c a T _ _ h6 G) (ha T _ h7 G ok) capL)
theorem S_forR {x:Nat} (ha:PSs c A):PS c (.forR x a b d A):=λT y h G ok=>by
 obtain ⟨h1,h2,h3,h4,h5,h6⟩:=band6 h
 exact .at ((isFor_eq h1).trans (congrArg (λz=>Stmt.For z _ _ _ _) (isN_eq h2))) (st_forR G.C0 c.hl G.names ok h3 (bnot h4) (soundR h5 G) (ha T _ h6 G ok))
theorem S_ret:PS c (.ret a):=λT y h G ok=>by
 obtain ⟨h1,h2,h3⟩:=band3 h
 exact .at ((is_Return (eq_of_beq h1)).trans (congrArg (λz=>Stmt.Return z _) (some_of h2))) (st_ret c.hl (soundE c a T _ _ h3 G))
theorem S_ret0:PS c .ret0:=λT y h G ok=>.at ((is_Return (eq_of_beq (band h).1)).trans (congrArg (λz=>Stmt.Return z _) (none_of (band h).2))) st_ret0
theorem S_raise {k:Nat}:PS c (.raise k):=λT y h G ok=>by
 obtain ⟨h1,h2,h3,h4,h5,h6,h7,h8⟩:=band8 h
 exact .at ((is_Raise (eq_of_beq h1)).trans ((congrArg (λz=>Stmt.Raise _ z _) (none_of h2)).trans (congrArg (λz=>Stmt.Raise z _ _) ((some_of h3).trans (congrArg some ((isCN_eq h4).trans (congrArg (λz=>PySem.Expr.Call _ z _ _) ((one_of h7).trans (congrArg (λz=>[z]) (isC_eq h8)))))))))) (st_raise (ca:=⟨c.cc,c.fr⟩) G.C0 G.names h5 (c.KO.hex k _ (by rw [← G.tex];exact of_decide_eq_true h6)))
theorem S_delidx:PS c (.delidx a b):=λT y h G ok=>by
 obtain ⟨h1,h2,h3,h4,h5⟩:=band5 h
 exact .at ((is_Delete (eq_of_beq h1)).trans (congrArg (λz=>Stmt.Delete z _) ((one_of h2).trans (congrArg (λz=>[z]) (is_Subscript (y:=tg y) (eq_of_beq h3)))))) (st_delidx c.hl (soundE c a T _ _ h4 G) (soundE c b T _ _ h5 G))
theorem S_brk:PS c .brk:=λT y h G ok=>.at (is_Break (eq_of_beq h)) st_brk
theorem S_pass:PS c .pass:=λT y h G ok=>.at (is_Pass (eq_of_beq h)) st_pass
theorem S_bad:PS c .bad:=λT y h G ok=>st_bad
theorem S_tryE {m k:Nat} {as:Es}:PS c (.tryE a m as k b):=λT y h G ok=>by
 obtain ⟨h1,h2,h3,h4,h5⟩:=band5 h
 obtain ⟨e1,e2⟩:=isTry_eq h1
 obtain ⟨g1,g2,g3,g4,g5,g6,g7,g8⟩:=band8 h2
 obtain ⟨f1,f2⟩:=isCA_eq g1
 obtain ⟨q1,q2⟩:=hdl_of G ok h5
 exact .at (e1.trans ((congrArg (λz=>Stmt.Try _ [.ExceptHandler _ _ z _] _ _ _) q2).trans (congrArg (λz=>Stmt.Try [z] _ _ _ _) ((is_Expr e2).trans (congrArg (λz=>Stmt.Expr z _) (f1.trans (by rw [of_decide_eq_true g2,G.tnm])))))))
  (st_tryE (ca:=⟨c.cc,c.fr⟩) c.C c.hl G.names ok c.hc (Nat.le_succ c.n) c.KO.hnm (P:=c.P) c.KO.hmeth (of_decide_eq_true g3) (bnot g4) (starLess_of g5) (of_decide_eq_true g6) (beq_iff_eq.mpr f2) (soundE c a T _ _ g7 G) ((soundEs c as T _ _ g8 G).1 g5) h3 (c.KO.hex k _ (by rw [← G.tex];exact of_decide_eq_true h4)) q1)
theorem S_tryA {z m k x:Nat} {as:Es} {r:Option E}:PS c (.tryA z a m as k r x):=λT y h G ok=>by
 obtain ⟨h1,j1,j2,j3,h2,h3,h4,h5⟩:=band8 h
 obtain ⟨e1,e2⟩:=isTry_eq h1
 obtain ⟨g1,g2,g3,g4,g5,g6,g7,g8⟩:=band8 h2
 obtain ⟨f1,f2⟩:=isCA_eq g1
 obtain ⟨q1,q2⟩:=hdl_of G ok h5
 exact .at (e1.trans ((congrArg (λz=>Stmt.Try _ [.ExceptHandler _ _ z _] _ _ _) q2).trans (congrArg (λz=>Stmt.Try [z] _ _ _ _) ((a1N j1 j2).trans (congrArg (λz=>Stmt.Assign _ z _) (f1.trans (by rw [of_decide_eq_true g2,G.tnm])))))))
  (st_tryA (ca:=⟨c.cc,c.fr⟩) c.C c.hl G.names ok c.hc (Nat.le_succ c.n) c.KO.hnm (P:=c.P) c.KO.hmeth (of_decide_eq_true g3) (bnot g4) (starLess_of g5) (of_decide_eq_true g6) (beq_iff_eq.mpr f2) (soundE c a T _ _ g7 G) ((soundEs c as T _ _ g8 G).1 g5) j3 h3 (c.KO.hex k _ (by rw [← G.tex];exact of_decide_eq_true h4)) q1)
theorem Ss_nil:PSs c .nil:=λT l h G ok=>by
 rw [List.isEmpty_iff.mp (show l.isEmpty=true from h)]
 exact ss_end
theorem Ss_cons {s:S} {ss:Ss} (h1:PS c s) (h2:PSs c ss):PSs c (.cons s ss):=λT l h G ok=>by
 obtain ⟨g1,g2,g3⟩:=band3 h
 rw [consS_of g1]
 exact ss_more (h1 T _ g2 G ok) (h2 T _ g3 G ok)
theorem soundS (c:TC) (s:S):PS c s:=@S.rec (PS c) (PSs c) (λ_ _=>S_assign) (λ_ _=>S_comp) (λ_ _=>S_cassign) (λ_ _=>S_unpack) (λ_ _ _=>S_setattr) (λ_ _ _=>S_setidx) (λ_ _ _=>S_aug) (λ_ _ _ _=>S_augattr) (λ_=>S_expr) (λ_ _ _=>S_ite) (λ_ _=>S_while) (λ_ _ _=>S_for) (λ_ _ _=>S_forT) (λ_ _ _ _ _=>S_forR)
 (λ_=>S_ret) S_ret0 (λ_=>S_raise) (λ_ _ _ _ _=>S_tryE) (λ_ _ _ _ _ _ _=>S_tryA) (λ_ _=>S_delidx) S_brk S_pass S_bad Ss_nil (λ_ _=>Ss_cons) s
theorem soundSs (c:TC) (s:Ss):PSs c s:=@Ss.rec (λ_=>True) (PSs c) (λ_ _=>trivial) (λ_ _=>trivial) (λ_ _=>trivial) (λ_ _=>trivial) (λ_ _ _=>trivial) (λ_ _ _=>trivial) (λ_ _ _=>trivial) (λ_ _ _ _=>trivial) (λ_=>trivial) (λ_ _ _ _ _=>trivial) (λ_ _ _=>trivial) (λ_ _ _ _=>trivial) (λ_ _ _ _=>trivial) (λ_ _ _ _ _ _=>trivial)
 (λ_=>trivial) trivial (λ_=>trivial) (λ_ _ _ _ _=>trivial) (λ_ _ _ _ _ _ _=>trivial) (λ_ _=>trivial) trivial trivial trivial Ss_nil (λs _ _ h=>Ss_cons (soundS c s) h) s
end
end Mine
end
section
open PySem
set_option maxRecDepth 100000
namespace Mine
noncomputable def nmL:List Str:=[⟨#[110,117,109,98,101,114]⟩,⟨#[115,101,113]⟩,⟨#[108,105,118,101]⟩,⟨#[109,97,114,107,115]⟩,⟨#[109,97,100,101]⟩,⟨#[112,108,97,99,101]⟩,⟨#[77,65,88,95,51,50]⟩,⟨#[77,65,88,95,54,52]⟩,⟨#[77,65,88,95,83,69,81]⟩,⟨#[75,73,78,68,95,68,69,76,69,84,69]⟩,⟨#[75,73,78,68,95,86,65,76,85,69]⟩,⟨#[84,65,71,95,76,69,78,71,84,72]⟩,⟨#[117,115,101,114,95,111,114,100,101,114]⟩,⟨#[99,111,109,112,97,114,101]⟩,⟨#[99,104,101,99,107]⟩,⟨#[67,72,69,67,75,95,67,82,67]⟩,⟨#[108,111,103,95,98,108,111,99,107]⟩,⟨#[115,121,110,99,95,119,114,105,116,101,115]⟩,⟨#[99,114,101,97,116,101,95,109,105,115,115,105,110,103]⟩,⟨#[112,97,114,97,110,111,105,100]⟩,⟨#[119,114,105,116,101,95,98,117,102,102,101,114]⟩,⟨#[109,97,120,95,104,101,105,103,104,116]⟩,⟨#[104,101,105,103,104,116,115]⟩,⟨#[98,108,111,99,107,95,115,105,122,101]⟩,⟨#[114,101,115,116,97,114,116,95,105,110,116,101,114,118,97,108]⟩,⟨#[102,105,108,116,101,114,95,98,105,116,115]⟩,⟨#[102,105,108,116,101,114,95,98,97,115,101,95,108,103]⟩,⟨#[109,97,120,95,102,105,108,101,95,115,105,122,101]⟩,⟨#[110,117,109,95,108,101,118,101,108,115]⟩,⟨#[108,48,95,116,114,105,103,103,101,114]⟩,⟨#[108,48,95,115,116,111,112]⟩,⟨#[98,97,115,101,95,98,121,116,101,115]⟩,⟨#[108,101,118,101,108,95,102,97,99,116,111,114]⟩,⟨#[109,97,120,95,109,101,109,95,108,101,118,101,108]⟩,⟨#[103,114,97,110,100,112,97,114,101,110,116,95,102,97,99,116,111,114]⟩,⟨#[101,120,112,97,110,100,95,102,97,99,116,111,114]⟩,⟨#[107,101,121]⟩,⟨#[118,97,108,117,101]⟩,⟨#[108,105,110,107,115]⟩,⟨#[111,114,100,101,114]⟩,⟨#[104,101,97,100]⟩,⟨#[104,101,105,103,104,116]⟩,⟨#[97,100,100,101,100]⟩,⟨#[116,111,119,101,114,115,95,98,101,102,111,114,101]⟩,⟨#[116,111,119,101,114,115]⟩,⟨#[119,101,105,103,104,116]⟩,⟨#[105,110,115,101,114,116]⟩,⟨#[69,78,84,82,89,95,67,79,83,84]⟩,⟨#[115,101,101,107,95,116,111,119,101,114]⟩,⟨#[75,73,78,68,95,83,69,69,75]⟩,⟨#[102,105,114,115,116,95,116,111,119,101,114]⟩,⟨#[108,97,115,116,95,116,111,119,101,114]⟩,⟨#[116,111,119,101,114]⟩,⟨#[98,101,102,111,114,101,95,116,111,119,101,114]⟩,⟨#[105,110,110,101,114]⟩,⟨#[108,111,119]⟩,⟨#[104,105,103,104]⟩,⟨#[103,111,105,110,103]⟩,⟨#[70,79,82,87,65,82,68]⟩,⟨#[103,111,111,100]⟩,⟨#[115,97,118,101,100,95,107,101,121]⟩,⟨#[115,97,118,101,100,95,118,97,108,117,101]⟩,⟨#[102,111,114,103,101,116]⟩,⟨#[115,101,101,107,95,102,105,114,115,116]⟩,⟨#[115,101,101,107]⟩,⟨#[102,105,110,100,95,102,111,114,119,97,114,100]⟩,⟨#[66,65,67,75,87,65,82,68]⟩,⟨#[115,101,101,107,95,108,97,115,116]⟩,⟨#[118,97,108,105,100]⟩,⟨#[98,97,99,107]⟩,⟨#[102,105,110,100,95,98,97,99,107,119,97,114,100]⟩,⟨#[115,116,101,112]⟩,⟨#[110,101,101,100]⟩,⟨#[119,114,105,116,101,115]⟩,⟨#[116,97,98,108,101]⟩,⟨#[97,100,100]⟩,⟨#[98,101,103,105,110]⟩,⟨#[104,101,108,100]⟩,⟨#[115,101,113,115]⟩,⟨#[108,105,115,116]⟩,⟨#[100,114,111,112]⟩,⟨#[115,109,97,108,108,101,115,116]⟩,⟨#[115,105,122,101]⟩,⟨#[104,111,108,100,115]⟩,⟨#[100,114,111,112,95,97,108,108]⟩,⟨#[119,97,108,107]⟩,⟨#[103,101,116]⟩]
noncomputable def clL:List (Nat × Str):=[(9,⟨#[83,110,97,112,77,97,114,107]⟩),(10,⟨#[77,97,114,107,76,105,115,116]⟩),(11,⟨#[79,114,100,101,114]⟩),(12,⟨#[66,121,116,101,115,79,114,100,101,114]⟩),(13,⟨#[73,110,116,101,114,110,97,108,79,114,100,101,114]⟩),(14,⟨#[79,112,116,105,111,110,115]⟩),(15,⟨#[84,111,119,101,114]⟩),(16,⟨#[83,107,105,112,76,105,115,116]⟩),(17,⟨#[77,101,109,84,97,98,108,101]⟩),(18,⟨#[77,101,109,73,116,101,114]⟩),(19,⟨#[85,115,101,114,73,116,101,114]⟩)]
noncomputable def exL:List (Nat × Str):=[(4,⟨#[78,111,116,70,111,117,110,100]⟩),(8,⟨#[83,116,97,108,101,83,110,97,112,115,104,111,116]⟩)]
noncomputable def fnL:List (Nat × Str):=[(9,⟨#[112,117,116,95,102,105,120,101,100,51,50]⟩),(10,⟨#[112,117,116,95,102,105,120,101,100,54,52]⟩),(11,⟨#[114,101,97,100,95,102,105,120,101,100,51,50]⟩),(12,⟨#[114,101,97,100,95,102,105,120,101,100,54,52]⟩),(13,⟨#[112,97,99,107,95,116,97,103]⟩),(14,⟨#[109,97,107,101,95,105,107,101,121]⟩),(15,⟨#[115,112,108,105,116,95,105,107,101,121]⟩),(16,⟨#[117,115,101,114,95,111,102]⟩),(17,⟨#[116,97,103,95,111,102]⟩),(22,⟨#[99,104,101,99,107,95,104,101,105,103,104,116,115]⟩),(58,⟨#[95,108,97,119,95,100,114,97,119]⟩),(59,⟨#[95,108,97,119,95,107,101,121,115]⟩),(60,⟨#[95,108,97,119,95,119,114,105,116,101]⟩),(61,⟨#[95,108,97,119,95,97,116]⟩),(62,⟨#[95,108,97,119,95,97,100,100]⟩),(63,⟨#[95,108,97,119,95,98,117,114,115,116]⟩),(64,⟨#[95,108,97,119,95,100,114,111,112]⟩),(65,⟨#[95,108,97,119,95,112,108,97,99,101,100]⟩),(66,⟨#[95,108,97,119,95,97,103,114,101,101,115]⟩),(67,⟨#[95,108,97,119,95,115,101,118,101,114,97,108]⟩),(68,⟨#[95,108,97,119,95,97,99,116]⟩),(69,⟨#[95,108,97,119,95,118,105,101,119]⟩),(70,⟨#[95,108,97,119,95,99,108,111,115,101]⟩),(71,⟨#[108,97,119]⟩)]
noncomputable def giL:List (Str × Int):=[(⟨#[77,65,88,95,51,50]⟩,4294967295),(⟨#[77,65,88,95,54,52]⟩,18446744073709551615),(⟨#[77,65,88,95,83,69,81]⟩,72057594037927935),(⟨#[75,73,78,68,95,68,69,76,69,84,69]⟩,0),(⟨#[75,73,78,68,95,86,65,76,85,69]⟩,1),(⟨#[84,65,71,95,76,69,78,71,84,72]⟩,8),(⟨#[67,72,69,67,75,95,67,82,67]⟩,1),(⟨#[69,78,84,82,89,95,67,79,83,84]⟩,13),(⟨#[75,73,78,68,95,83,69,69,75]⟩,1),(⟨#[70,79,82,87,65,82,68]⟩,0),(⟨#[66,65,67,75,87,65,82,68]⟩,1)]
noncomputable def slL:List (List Str):=[[⟨#[115,101,108,102]⟩,⟨#[110,117,109,98,101,114]⟩,⟨#[115,101,113]⟩],
 [⟨#[115,101,108,102]⟩],
 [⟨#[115,101,108,102]⟩],
 [⟨#[115,101,108,102]⟩,⟨#[115,101,113]⟩,⟨#[109,97,114,107]⟩],
 [⟨#[115,101,108,102]⟩,⟨#[109,97,114,107]⟩,⟨#[108,111,119]⟩,⟨#[104,105,103,104]⟩,⟨#[109,105,100]⟩,⟨#[102,111,117,110,100]⟩],
 [⟨#[115,101,108,102]⟩,⟨#[109,97,114,107]⟩],
 [⟨#[115,101,108,102]⟩,⟨#[109,97,114,107]⟩,⟨#[97,116]⟩],
 [⟨#[115,101,108,102]⟩,⟨#[109,97,114,107]⟩],
 [⟨#[115,101,108,102]⟩],
 [⟨#[110]⟩],
 [⟨#[110]⟩],
 [⟨#[100,97,116,97]⟩,⟨#[97,116]⟩],
 [⟨#[100,97,116,97]⟩,⟨#[97,116]⟩],
 [⟨#[115,101,113]⟩,⟨#[107,105,110,100]⟩],
 [⟨#[117,115,101,114]⟩,⟨#[115,101,113]⟩,⟨#[107,105,110,100]⟩],
 [⟨#[105,107]⟩,⟨#[117,115,101,114]⟩,⟨#[116,97,103]⟩,⟨#[107,105,110,100]⟩],
 [⟨#[105,107]⟩],
 [⟨#[105,107]⟩],
 [⟨#[115,101,108,102]⟩,⟨#[97]⟩,⟨#[98]⟩],
 [⟨#[115,101,108,102]⟩],
 [⟨#[115,101,108,102]⟩,⟨#[97]⟩,⟨#[98]⟩,⟨#[99]⟩,⟨#[116,97,103,95,97]⟩,⟨#[116,97,103,95,98]⟩],
 [⟨#[115,101,108,102]⟩],
 [⟨#[109,97,120,95,104,101,105,103,104,116]⟩,⟨#[104,101,105,103,104,116,115]⟩,⟨#[104,101,105,103,104,116]⟩],
 [⟨#[115,101,108,102]⟩,⟨#[107,101,121]⟩,⟨#[118,97,108,117,101]⟩,⟨#[104,101,105,103,104,116]⟩],
 [⟨#[115,101,108,102]⟩,⟨#[111,114,100,101,114]⟩,⟨#[109,97,120,95,104,101,105,103,104,116]⟩,⟨#[104,101,105,103,104,116,115]⟩],
 [⟨#[115,101,108,102]⟩,⟨#[107,101,121]⟩,⟨#[116,114,97,105,108]⟩,⟨#[116,111,119,101,114]⟩,⟨#[108,101,118,101,108]⟩,⟨#[97,104,101,97,100]⟩],
 [⟨#[115,101,108,102]⟩,⟨#[107,101,121]⟩,⟨#[118,97,108,117,101]⟩,⟨#[116,114,97,105,108]⟩,⟨#[97,104,101,97,100]⟩,⟨#[104,101,105,103,104,116]⟩,⟨#[116,111,119,101,114]⟩,⟨#[108,101,118,101,108]⟩],
 [⟨#[115,101,108,102]⟩],
 [⟨#[115,101,108,102]⟩,⟨#[107,101,121]⟩],
 [⟨#[115,101,108,102]⟩,⟨#[107,101,121]⟩,⟨#[102,111,117,110,100]⟩,⟨#[116,111,119,101,114]⟩,⟨#[108,101,118,101,108]⟩,⟨#[97,104,101,97,100]⟩],
 [⟨#[115,101,108,102]⟩,⟨#[102,111,117,110,100]⟩,⟨#[116,111,119,101,114]⟩,⟨#[108,101,118,101,108]⟩,⟨#[97,104,101,97,100]⟩],
 [⟨#[115,101,108,102]⟩,⟨#[111,112,116,105,111,110,115]⟩],
 [⟨#[115,101,108,102]⟩,⟨#[115,101,113]⟩,⟨#[107,105,110,100]⟩,⟨#[117,115,101,114]⟩,⟨#[118,97,108,117,101]⟩,⟨#[107,101,112,116]⟩],
 [⟨#[115,101,108,102]⟩,⟨#[117,115,101,114]⟩,⟨#[115,101,113]⟩,⟨#[116,111,119,101,114]⟩,⟨#[117,115,101,114,95,116,104,101,114,101]⟩,⟨#[115,101,113,95,116,104,101,114,101]⟩,⟨#[107,105,110,100]⟩],
 [⟨#[115,101,108,102]⟩],
 [⟨#[115,101,108,102]⟩,⟨#[116,97,98,108,101]⟩],
 [⟨#[115,101,108,102]⟩],
 [⟨#[115,101,108,102]⟩],
 [⟨#[115,101,108,102]⟩],
 [⟨#[115,101,108,102]⟩,⟨#[116,97,114,103,101,116]⟩],
 [⟨#[115,101,108,102]⟩],
 [⟨#[115,101,108,102]⟩],
 [⟨#[115,101,108,102]⟩],
 [⟨#[115,101,108,102]⟩],
 [⟨#[115,101,108,102]⟩],
 [⟨#[115,101,108,102]⟩,⟨#[105,110,110,101,114]⟩,⟨#[115,101,113]⟩,⟨#[111,114,100,101,114]⟩,⟨#[108,111,119]⟩,⟨#[104,105,103,104]⟩],
 [⟨#[115,101,108,102]⟩],
 [⟨#[115,101,108,102]⟩],
 [⟨#[115,101,108,102]⟩],
 [⟨#[115,101,108,102]⟩],
 [⟨#[115,101,108,102]⟩,⟨#[116,97,114,103,101,116]⟩],
 [⟨#[115,101,108,102]⟩],
 [⟨#[115,101,108,102]⟩,⟨#[115,107,105,112,112,105,110,103]⟩,⟨#[117,115,101,114]⟩,⟨#[115,101,113]⟩,⟨#[107,105,110,100]⟩],
 [⟨#[115,101,108,102]⟩,⟨#[104,97,118,101]⟩,⟨#[117,115,101,114]⟩,⟨#[115,101,113]⟩,⟨#[107,105,110,100]⟩],
 [⟨#[115,101,108,102]⟩],
 [⟨#[115,101,108,102]⟩,⟨#[104,101,114,101]⟩],
 [⟨#[115,101,108,102]⟩],
 [⟨#[115,101,108,102]⟩],
 [⟨#[110,117,109,115]⟩,⟨#[105]⟩],
 [],
 [⟨#[98,111,111,107]⟩,⟨#[121]⟩,⟨#[107,101,121]⟩,⟨#[110]⟩,⟨#[118,97,108,117,101]⟩],
 [⟨#[98,111,111,107]⟩,⟨#[107,101,121]⟩,⟨#[115,101,113]⟩,⟨#[116,111,108,100]⟩,⟨#[116,104,101,114,101]⟩,⟨#[118,97,108,117,101]⟩],
 [⟨#[98,111,111,107]⟩,⟨#[115,101,113]⟩,⟨#[104,101,108,100]⟩,⟨#[114,105,103,104,116]⟩,⟨#[109,97,114,107]⟩],
 [⟨#[98,111,111,107]⟩,⟨#[121]⟩,⟨#[99,111,117,110,116]⟩,⟨#[99,117,116]⟩,⟨#[106]⟩],
 [⟨#[98,111,111,107]⟩,⟨#[107]⟩,⟨#[114,105,103,104,116]⟩],
 [⟨#[98,111,111,107]⟩,⟨#[107]⟩,⟨#[97,116]⟩],
 [⟨#[98,111,111,107]⟩,⟨#[121]⟩,⟨#[109,97,114,107,115]⟩,⟨#[104,101,108,100]⟩,⟨#[99,111,117,110,116]⟩,⟨#[108,101,97,115,116]⟩,⟨#[97,115,107,101,100]⟩,⟨#[116,111,108,100]⟩,⟨#[107]⟩],
 [⟨#[98,111,111,107]⟩,⟨#[119,97,121]⟩,⟨#[121]⟩,⟨#[104,101,108,100]⟩,⟨#[108,101,97,115,116]⟩,⟨#[46,106]⟩,⟨#[119,104,105,99,104]⟩,⟨#[46,107]⟩,⟨#[95]⟩],
 [⟨#[98,111,111,107]⟩,⟨#[119,97,121]⟩,⟨#[121]⟩,⟨#[104,101,108,100]⟩,⟨#[114,105,103,104,116]⟩,⟨#[107]⟩,⟨#[110,101,119,101,115,116]⟩],
 [⟨#[98,111,111,107]⟩,⟨#[107]⟩,⟨#[114,111,119,115]⟩,⟨#[107,101,121]⟩,⟨#[102,111,117,110,100]⟩,⟨#[107,105,110,100]⟩,⟨#[118,97,108,117,101]⟩,⟨#[116,97,98,108,101]⟩,⟨#[119,97,108,107]⟩],
 [⟨#[98,111,111,107]⟩,⟨#[121]⟩,⟨#[104,101,108,100]⟩,⟨#[97,112,97,114,116]⟩,⟨#[107]⟩,⟨#[106]⟩,⟨#[107,101,121]⟩],
 [⟨#[115,99,114,105,112,116]⟩,⟨#[46,120]⟩,⟨#[110,117,109,115]⟩,⟨#[120]⟩,⟨#[98,101,103,105,110]⟩,⟨#[98,111,111,107]⟩,⟨#[105]⟩,⟨#[121]⟩,⟨#[109,97,110,121]⟩,⟨#[119,97,121]⟩]]
noncomputable def caL:List Nat:=[31,44,56,68,80,92,104,116,128,147,217,322,357,411,444,472,542,605,689,794]
noncomputable def faL:List Nat:=[144,165,172,179,186,193,200,207,214,228,235,242,249,256,263,270,277,284,298,373,380,427,455,469,490,504,511,518,525,532,539,560,567,581,602,623,630,637,644,651,658,665,672,679,686,707,714,721,728,735,742,749,756,763,770,777,784,791,805,812,819,826,833,840,847,854,861,866,873,880,887,892]
end Mine
end
section
open PySem PySem.W PyProof.Rows PySem.Calls
set_option maxRecDepth 1000000
set_option maxHeartbeats 0
namespace Mine
noncomputable def nmF (n:Nat):Str:=nmL.getD n ⟨#[1,n]⟩
noncomputable def snF (f x:Nat):Str:=(slL.getD f []).getD x ⟨#[]⟩
noncomputable def ccF (c:Nat):Addr:=caL.getD c 0
noncomputable def faF (f:Nat):Addr:=faL.getD f 0
noncomputable def giF (x:Str):Option Int:=giL.lookup x
noncomputable def fnF (f:Nat):Option Str:=fnL.lookup f
noncomputable def clF (c:Nat):Option Str:=clL.lookup c
noncomputable def exF (c:Nat):Option Str:=exL.lookup c
noncomputable def tbF (f:Nat) (names:List (Str × NameKind)):Tb:=⟨nmF,snF f,names,giF,fnF,clF,exF,true⟩
theorem nodup_inj {α:Type}:∀ {l:List α},l.Nodup→∀ {i j:Nat} {a:α},l[i]?=some a→l[j]?=some a→i=j
 | x :: l,nd,0,0,a,_,_=>rfl
 | x :: l,nd,0,j + 1,a,h1,h2=>by
  cases h1
  rw [List.nodup_cons] at nd
  exact absurd (List.mem_of_getElem? (by simpa using h2)) nd.1
 | x :: l,nd,i + 1,0,a,h1,h2=>by
  cases h2
  rw [List.nodup_cons] at nd
  exact absurd (List.mem_of_getElem? (by simpa using h1)) nd.1
 | x :: l,nd,i + 1,j + 1,a,h1,h2=>by
  rw [List.nodup_cons] at nd
  exact congrArg Nat.succ (nodup_inj nd.2 (by simpa using h1) (by simpa using h2))
theorem nm_ok:NmOk nmF:=by
 have h:((List.range 100).map nmF).Nodup:=by decide +kernel
 intro i j hi hj e
 have h1:((List.range 100).map nmF)[i]?=some (nmF i):=by rw [List.getElem?_map,List.getElem?_range hi];rfl
 have h2:((List.range 100).map nmF)[j]?=some (nmF j):=by rw [List.getElem?_map,List.getElem?_range hj];rfl
 exact nodup_inj h h1 (by rw [h2,e])
noncomputable def fldChk (K:Frag) (C:Addr) (x:Str):Bool :=
 plainGet K C x && hasDictIn K C && (match findIn K (.ref C) x with | some attr=>noGet K attr | Option.none=>false) && findIn K (.ref C) "__setattr__" == some (some (.builtin "object.__setattr__")) && plainOver K C && takerIn K C x == some none
theorem fld_of {K:Frag} {C:Addr} {x:Str} (h:fldChk K C x=true):FldOk K C x:=by
 unfold fldChk at h
 simp only [Bool.and_eq_true,beq_iff_eq] at h
 obtain ⟨⟨⟨⟨⟨h1,h2⟩,h3⟩,h4⟩,h5⟩,h6⟩:=h
 refine ⟨h1,h2,?_,h4,h5,h6⟩
 split at h3
 ·rename_i attr ha;exact ⟨attr,ha,h3⟩
 ·cases h3
noncomputable def methChk (K:Frag) (C:Addr) (x:Str) (f:Addr):Bool:=plainGet K C x && findIn K (.ref C) x == some (some (.ref f)) && isFn K (.ref f) && keepIn K (.ref f)
theorem meth_of {K:Frag} {C:Addr} {x:Str} {f:Addr} (h:methChk K C x f=true):MethOk K C x f:=by
 unfold methChk at h
 simp only [Bool.and_eq_true,beq_iff_eq] at h
 exact ⟨h.1.1.1,h.1.1.2,h.1.2,h.2⟩
noncomputable def tblChk (K:Frag):Bool :=
 ((List.range 20).all λc=>(theFlds.getD c []).all λn=>fldChk K (ccF c) (nmF n)) &&
 (theMeths.all λq=>methChk K (ccF q.1.1) (nmF q.1.2) (faF q.2)) &&
 (giL.all λq=>match nsIn K mainGlobals q.1 with | some (some (.int j _))=>q.2 == j | _=>false) &&
 (fnL.all λq=>nsIn K mainGlobals q.2 == some (some (.ref (faF q.1))) && keepIn K (.ref (faF q.1))) &&
 (clL.all λq=>nsIn K mainGlobals q.2 == some (some (.ref (ccF q.1))) && keepIn K (.ref (ccF q.1)) && makesIn K (ccF q.1) && (match theInit q.1 with
  | some (some f)=>findIn K (.ref (ccF q.1)) "__init__" == some (some (.ref (faF f))) && isFn K (.ref (faF f))
  | some Option.none=>findIn K (.ref (ccF q.1)) "__init__" == some (some (.builtin "object.__init__"))
  | Option.none=>true)) &&
 (exL.all λq=>nsIn K mainGlobals q.2 == some (some (.ref (ccF q.1))) && excIn K (ccF q.1) [.type "Exception",.type "BaseException",.type "object"] "Exception.__new__") &&
 (bnames.all λx=>nsIn K mainGlobals x == some none)
theorem mem_lookup {α β:Type} [BEq α] [LawfulBEq α] {l:List (α × β)} {a:α} {b:β} (h:l.lookup a=some b):(a,b) ∈ l:=by
 induction l with
 | nil=>cases h
 | cons q l ih =>
  obtain ⟨x,y⟩:=q
  rw [List.lookup_cons] at h
  split at h
  ·rename_i e
   have:=eq_of_beq e
   subst this
   cases h
   exact .head _
  ·exact .tail _ (ih h)
theorem tbl_of {K:Frag} (h:tblChk K=true):KOk K nmF ccF faF thePrg giF fnF clF exF:=by
 unfold tblChk at h
 simp only [Bool.and_eq_true,List.all_eq_true,beq_iff_eq] at h
 obtain ⟨⟨⟨⟨⟨⟨h1,h2⟩,h3⟩,h4⟩,h5⟩,h6⟩,h7⟩:=h
 refine ⟨nm_ok,λc n hf=>?_,λc m f hm=>meth_of (h2 _ (mem_lookup hm)),λx i hi=>?_,λf x hf=>h4 _ (mem_lookup hf),λc x hc=>?_,λc x f hc hi=>?_,λc x hc hi=>?_,λc x hc=>?_,λx hx=>h7 x hx⟩
 ·have hc:(theFlds.getD c []).contains n=true:=hf
  have hcl:c < 20:=by
   rcases Nat.lt_or_ge c 20 with q | q
   ·exact q
   ·have:theFlds.getD c [] = []:=by rw [List.getD_eq_getElem?_getD,List.getElem?_eq_none (by exact q)];rfl
    rw [this] at hc;cases hc
  exact fld_of (h1 c (List.mem_range.mpr hcl) n (by simpa using hc))
 ·have:=h3 _ (mem_lookup hi)
  split at this
  ·rename_i j t hn
   have e:i=j:=beq_iff_eq.mp this
   exact ⟨t,by rw [e];exact hn⟩
  ·cases this
 ·have:=h5 _ (mem_lookup hc)
  exact ⟨this.1.1.1,this.1.1.2,this.1.2⟩
 ·have:=(h5 _ (mem_lookup hc)).2
  have hi:theInit c=some (some f):=hi
  dsimp only at this
  rw [hi] at this
  simpa using this
 ·have:=(h5 _ (mem_lookup hc)).2
  have hi:theInit c=some Option.none:=hi
  dsimp only at this
  rw [hi] at this
  simpa using this
 ·have:=h6 _ (mem_lookup hc)
  exact ⟨this.1,this.2⟩
noncomputable def fnChk (K:Frag) (f:Nat) (D:FDef):Bool :=
 match K.lookup (faF f) with
 | some o=>(match o.data with
  | .func fd=>(match fd.body with
   | .stmts body=>fd.globals == mainGlobals && (fd.builtins == builtinsNs && (fd.closure.isEmpty && (codeIn K fd.code fd.qualname && (!fd.scope.isCoroutine && (!fd.scope.isGenerator && (fd.scope.kind == .function && (fd.params.posonlyargs.isEmpty && (fd.params.vararg.isNone && (fd.params.kwonlyargs.isEmpty && (fd.params.kwarg.isNone && (fd.defaults == .none && (fd.params.args.map (·.arg) == (slL.getD f []).take D.params && (decide (D.params ≤ (slL.getD f []).length) && (decide (slL.getD f []).Nodup && ((fd.scope.names.lookup ⟨#[]⟩).isNone && (((slL.getD f []).take D.params).all (λy=>fd.scope.names.lookup y == some .local || (fd.scope.names.lookup y == some .cell && D.cells.any (λx=>snF f x == y))) && (decide D.cells.Nodup && (D.cells.all (λx=>fd.scope.names.lookup (snF f x) == some .cell) && chkSs D.body (tbF f fd.scope.names) body))))))))))))))))))
   | _=>false)
  | _=>false)
 | Option.none=>false
theorem cells_some {x:Str}:∀ (l:List (Str × NameKind)) (n:Nat) (acc:List (Str × Addr)),(l.lookup x=some .cell∨(acc.lookup x).isSome=true)→((cellsFrom n l acc).lookup x).isSome=true
 | [],n,acc,h=>by
  rcases h with h | h
  ·cases h
  ·exact h
 | (name,kind) :: r,n,acc,h=>by
  unfold cellsFrom
  split
  ·rename_i hk
   refine cells_some r _ _ ?_
   by_cases hx:x=name
   ·subst hx;right;simp [List.lookup_cons]
   ·have hb:(x == name)=false:=beq_eq_false_iff_ne.mpr hx
    rcases h with h | h
    ·left;simpa [List.lookup_cons,hb] using h
    ·right;simpa [List.lookup_cons,hb] using h
  ·rename_i hk
   refine cells_some r _ _ ?_
   rcases h with h | h
   ·rw [List.lookup_cons] at h
    split at h
    ·cases h;exact absurd hk (by decide)
    ·exact .inl h
   ·exact .inr h
section
variable {prog:Program} {w:World} {K:Frag} {p:Program} {loose:List Str} {mg mb:Str→Option Value}
theorem fn_of (KO:KOk K nmF ccF faF thePrg giF fnF clF exF) {f:Nat} {D:FDef} (h:fnChk K f D=true):FnOk prog w K p loose mg mb nmF ccF faF thePrg f D:=by
 unfold fnChk at h
 split at h
 ·rename_i o ho
  split at h
  ·rename_i fd hfd
   split at h
   ·rename_i body hb
    obtain ⟨h1,h2,h3,h4,h5,h6,h7,h⟩:=band8 h
    obtain ⟨h8,h9,h10,h11,h12,h13,h14,h⟩:=band8 h
    obtain ⟨h15,h16,h17,h18,h19,h20⟩:=band6 h
    have h15:=of_decide_eq_true h15
    have h16:=Option.isNone_iff_eq_none.mp h16
    have h14:=of_decide_eq_true h14
    have h19:∀ x ∈ D.cells,fd.scope.names.lookup (snF f x)=some .cell:=λx hx=>eq_of_beq (List.all_eq_true.mp h19 x hx)
    have hsn:∀ i y,(slL.getD f [])[i]?=some y→y=snF f i:=λi y hi=>by
     unfold snF;rw [List.getD_eq_getElem?_getD,hi];rfl
    have hOk:(tbF f fd.scope.names).Ok:=by
     intro x y k hk hxy
     have hin:∀ z,snF f z ≠ ⟨#[]⟩→(slL.getD f [])[z]?=some (snF f z):=λz hz=>by
      cases q:(slL.getD f [])[z]? with
      | some s=>rw [hsn z s q]
      | none=>exact absurd (by unfold snF;rw [List.getD_eq_getElem?_getD,q];rfl) hz
     have hx:snF f x ≠ ⟨#[]⟩:=λq=>by
      have hk:fd.scope.names.lookup (snF f x)=some k:=hk
      rw [q,h16] at hk;cases hk
     have hy:snF f y ≠ ⟨#[]⟩:=λq=>hx ((show snF f x=snF f y from hxy).trans q)
     exact nodup_inj h15 (hin x hx) (by rw [hin y hy];exact congrArg some (show snF f x=snF f y from hxy).symm)
    refine ⟨o,fd,body,tbF f fd.scope.names,(slL.getD f []).take D.params,ho,hfd,hb,eq_of_beq h1,eq_of_beq h2,List.isEmpty_iff.mp h3,h4,bnot h5,bnot h6,eq_of_beq h7,List.isEmpty_iff.mp h8,eq_of_beq h13,Option.isNone_iff_eq_none.mp h9,List.isEmpty_iff.mp h10,Option.isNone_iff_eq_none.mp h11,eq_of_beq h12,(List.take_sublist _ _).nodup h15,by rw [List.length_take];lia,rfl,hOk,λi y hi=>?_,λy hy=>?_,of_decide_eq_true h18,λx hx=>?_,?_⟩
    ·rw [List.getElem?_take] at hi
     split at hi
     ·exact hsn i y hi
     ·cases hi
    ·rcases Bool.or_eq_true_iff.mp (List.all_eq_true.mp h17 y hy) with q | q
     ·exact .inl (eq_of_beq q)
     ·obtain ⟨q,z⟩:=band q
      obtain ⟨x,hx,e⟩:=List.any_eq_true.mp z
      exact .inr ⟨eq_of_beq q,x,hx,eq_of_beq e⟩
    ·exact ⟨h19 x hx,λn=>cells_some _ _ _ (.inl (h19 x hx))⟩
    ·intro call n A h₀ outer env L fr C es el ec hc
     exact soundSs ⟨prog,w,K,p,loose,mg,mb,A,h₀,outer,env,L,n,nmF,ccF,faF,fr,call,thePrg,giF,fnF,clF,exF,KO,C,hc fr,el,λx hx=>by rw [ec];rw [es] at hx;exact cells_some _ _ _ (.inl hx)⟩ D.body (tbF f fd.scope.names) body h20
      ⟨C.toCx0,by rw [es];rfl,rfl,rfl,rfl,rfl,rfl,λ_=>rfl⟩ hOk
   ·cases h
  ·cases h
 ·cases h
noncomputable def fnsChk (K:Frag):Bool:=(List.range 72).all λf=>match theFn f with | some D=>fnChk K f D | Option.none=>true
theorem fns_of (h1:tblChk K=true) (h2:fnsChk K=true):∀ f D,thePrg.fn f=some D→FnOk prog w K p loose mg mb nmF ccF faF thePrg f D:=by
 intro f D hf
 have hf:theFn f=some D:=hf
 have hlt:f < 72:=(List.getElem?_eq_some_iff.mp hf).1
 have:=List.all_eq_true.mp h2 f (List.mem_range.mpr hlt)
 rw [hf] at this
 exact fn_of (tbl_of h1) this
end
noncomputable section
noncomputable def runT (stp:SharedT→Thread→Option (SharedT × Thread)) (ok:Thread→Bool):Nat→SharedT→Thread→Option SharedT
 | 0,_,_=>none
 | n + 1,s,t=>match through t with
  | true=>some s
  | false=>match ok t with
   | false=>none
   | true=>match stp s t with
    | some (s',t')=>runT stp ok n s' t'
    | none=>none
theorem runT_spec {tb:String→Option Builtin} {p:Program} {w:World} {n₀:Nat} {ann:Option Value}:∀ {n:Nat} {s s':SharedT} {t:Thread},runT (stepT (denote tb) p w) (stepOk n₀ ann) n s t=some s'→topRun tb p w n₀ ann n s.abs t=some s'.abs
 | 0,_,_,_,h=>by cases h
 | n + 1,s,s',t,h=>by
  unfold runT at h
  unfold topRun
  cases ht:through t with
  | true=>rw [ht] at h;cases h;rfl
  | false =>
   rw [ht] at h
   cases hk:stepOk n₀ ann t with
   | false=>rw [hk] at h;cases h
   | true =>
    rw [hk] at h
    cases hs:stepT (denote tb) p w s t with
    | none=>rw [hs] at h;cases h
    | some r=>obtain ⟨s₂,t₂⟩:=r;rw [hs] at h;dsimp only;rw [stepT_spec hs];exact runT_spec h
noncomputable def buildT:List Obj→Nat→BT→BT
 | [],_,t=>t
 | o :: l,i,t=>buildT l (i + 1) (t.ins i o)
noncomputable abbrev thePw:Program:=PySem.Challenge.rw_xm0856_01.row.prog
noncomputable def boot0 (P:Params) (os:OsState):SharedT:=⟨buildT (boot_heap P).objs.toList 0 .nil,11,(boot_heap P).life,#[],boot_drawn,boot_toks,os⟩
theorem boot0_abs (P:Params) (os:OsState):(boot0 P os).abs=⟨boot_heap P,#[],boot_drawn,boot_toks,os⟩:=by kernel_rfl
noncomputable def theQ:Program:=view thePw [62]
noncomputable def theLoose:List Str:=(Program.boundNames thePw).filter λk=>!(k == Str.ofString "law")
noncomputable def lookAt {α:Type} (p q:Program) (loose:List Str) (Xt:Shared→Bool) (mods:List Str) (seenF:Program→List Str→List Str→(Shared→Bool)→Bool→Shared→α) (H₀:Heap) (Yf:Shared→Bool) (s:Shared):Bool × α × Bool :=
 (staticsOk mods H₀ s.heap && namesBound p s.heap && gensDone s && laidKept H₀ s.heap,seenF q loose mods Xt true s,Yf s)
theorem left_of {p q:Program} {loose:List Str} {Xt:Shared→Bool} {Yf:Shared→Bool} {N m₀:Nat} {ann:Option Value} {H₀:Params→Heap} {d:Drawn} {k:Nat} {b0:Params→OsState→SharedT}
  {stp:World→SharedT→Thread→Option (SharedT × Thread)} {ok:Thread→Bool} {mods:List Str} {seenF:Program→List Str→List Str→(Shared→Bool)→Bool→Shared→_}
  (hb:∀ w:World,(fencedOpening treeTable p w N).map (λs=>(s.heap,s.gens,s.drawn,s.toks))=some (H₀ w.params,Array.mk [],d,k))
  (z1:∀ P,((H₀ P).isNs mainGlobals && (#[]:Array GenState).size == 0)=true) (z2:∀ P,(H₀ P).objs.size=m₀) (z3:∀ P,(H₀ P).nsMap mainGlobals "__annotations__"=ann)
  (b0a:∀ P os,(b0 P os).abs=⟨H₀ P,#[],d,k,os⟩)
  (hstp:∀ w,stepT (denote treeTable) p w=stp w) (hok:stepOk m₀ ann=ok) (hm:importedModules p.main.body=mods) (hsn:@openSeen=seenF)
  (h:∀ w:World,(λos=>(runT (stp w) ok N (b0 w.params os) (topStub p)).map λs=>lookAt p q loose Xt mods seenF (H₀ w.params) Yf s.abs)=λ_=>some (true,openGood q loose,true)) :
  LeftO p q loose Xt Yf (λ_=>true) N:=by
 subst hok hm hsn
 intro w
 obtain ⟨⟨hp,gs,d',k',os⟩,e,e'⟩:=Option.map_eq_some_iff.mp (hb w)
 obtain ⟨rfl,rfl,rfl,rfl⟩:hp=H₀ w.params∧gs=Array.mk []∧d'=d∧k'=k:=by simpa using e'
 have r:=congrFun (h w) os
 obtain ⟨s₁,r1,r2⟩:=Option.map_eq_some_iff.mp r
 rw [← hstp] at r1
 have r3:=runT_spec r1
 rw [b0a] at r3
 have l1:=congrArg Prod.fst r2
 have l2:=congrArg (λx=>x.2.1) r2
 have l3:=congrArg (λx=>x.2.2) r2
 have t:topFrom treeTable p w N ⟨H₀ w.params,#[],d',k',os⟩=some s₁.abs:=by
  unfold topFrom
  dsimp only
  rw [z1,z2,z3,r3]
  show (match staticsOk (importedModules p.main.body) (H₀ w.params) s₁.abs.heap && namesBound p s₁.abs.heap && gensDone s₁.abs && laidKept (H₀ w.params) s₁.abs.heap with | true=>_ | false=>_)=_
  have l1:(staticsOk (importedModules p.main.body) (H₀ w.params) s₁.abs.heap && namesBound p s₁.abs.heap && gensDone s₁.abs && laidKept (H₀ w.params) s₁.abs.heap)=true:=l1
  rw [l1]
 unfold openEnds
 rw [e]
 show (topFrom treeTable p w N ⟨H₀ w.params,#[],d',k',os⟩).map _=_
 rw [t]
 exact congrArg some (Prod.ext l2 l3)
theorem op1:opening thePw=plainProg thePw.main.scope.names:=by kernel_rfl
theorem op3 (s:Shared):fenceModules? thePw s=some s:=by kernel_rfl
theorem z1 (P:Params):((boot_heap P).isNs mainGlobals && (#[]:Array GenState).size == 0)=true:=by kernel_rfl
theorem z2 (P:Params):(boot_heap P).objs.size=11:=by kernel_rfl
theorem z3 (P:Params):(boot_heap P).nsMap mainGlobals "__annotations__"=some (.ref 6):=by kernel_rfl
noncomputable def theXt:Shared→Bool:=λs=>xlAt theQ [] s && recOk [] s
theorem stp_eq (w:World):stepT (denote treeTable) thePw w=PySem.W.Fast.tw10156331382660048174 (PySem.W.Fast.tw11892475500146522536 PySem.W.Fast.tw14364793385576792824) thePw w:=by
 rw [PySem.W.Fast.te10156331382660048174,PySem.W.Fast.te11892475500146522536,PySem.W.Fast.te14364793385576792824]
theorem ok_eq:stepOk 11 (some (.ref 6))=PySem.W.Fast.tw6613529449190102663 11 (some (.ref 6)):=by rw [PySem.W.Fast.te6613529449190102663]
theorem mods_eq:importedModules thePw.main.body=PySem.W.Fast.tw5923862056798008813 thePw.main.body:=by rw [PySem.W.Fast.te5923862056798008813]
noncomputable def kOne (h:Heap) (a:Addr):Frag:=match h.get? a with
 | some o=>[(a,o)]
 | none=>[]
noncomputable def kRef (h:Heap):Value→Frag
 | .ref c=>kOne h c
 | _=>[]
noncomputable def kAt (h:Heap) (a:Addr):Frag:=match h.get? a with
 | some ⟨c,d,.cls cd,sl⟩=>(a,⟨c,d,.cls cd,sl⟩) :: kOne h cd.ns
 | some ⟨c,d,.func fd,sl⟩=>(a,⟨c,d,.func fd,sl⟩) :: kRef h fd.code
 | _=>[]
noncomputable def kOf (h:Heap):Frag:=kOne h mainGlobals ++ kOne h builtinsNs ++ (caL ++ faL).flatMap (kAt h)
noncomputable def kChk (K:Frag):Bool:=tblChk K && fnsChk K
theorem one_run (w:World):(λos=>(runT (PySem.W.Fast.tw10156331382660048174 (PySem.W.Fast.tw11892475500146522536 PySem.W.Fast.tw14364793385576792824) thePw w) (PySem.W.Fast.tw6613529449190102663 11 (some (.ref 6))) 9000 (boot0 w.params os) (topStub thePw)).map
  λs=>lookAt thePw theQ theLoose theXt (PySem.W.Fast.tw5923862056798008813 thePw.main.body) PySem.W.Fast.tw4187177175401517315 (boot_heap w.params) (λs=>kChk (kOf s.heap)) s.abs)=λ_=>some (true,openGood theQ theLoose,true):=by kernel_rfl
theorem left:LeftO thePw theQ theLoose theXt (λs=>kChk (kOf s.heap)) (λ_=>true) 9000 :=
 left_of (boot_open op1 rfl op3) z1 z2 z3 boot0_abs stp_eq ok_eq mods_eq PySem.W.Fast.te4187177175401517315 one_run
end
noncomputable section
def theR:OpenRow:=PySem.Challenge.rw_xm0856_01.row
theorem said0:PySem.Challenge.rw_xm0856_01.wellSaid=true:=by
 rw [PySem.W.Fast.te9446332074065402090]
 kernel_rfl
theorem def_some:(defOf theQ (Str.ofString "law")).isSome=true:=by kernel_rfl
noncomputable def theD:DefRec:=((defOf theQ (Str.ofString "law")).get def_some).1
theorem def_is:defOf theQ (Str.ofString "law")=some (theD,[]):=by kernel_rfl
theorem def_th:thePw.theDef (Str.ofString "law")=some (theD.params,theD.body,theD.scope):=by kernel_rfl
theorem def_kw:kwWritten? theD.params.kwonlyargs theD.params.kw_defaults=some []:=by kernel_rfl
theorem opens_ok:(chainsOk theQ && opensWell theR.prog && (frees theR.toRowW && theR.within.isEmpty))=true:=by kernel_rfl
theorem bare_ok:theR.prog.bare:=⟨rfl,rfl,rfl,rfl,rfl,by decide +kernel⟩
theorem prom_ok:theR.toRowW.promised:=by w_witness2
theorem holds_of {Yf:Shared→Bool} {YP:World→Heap→Prop} (left:LeftO thePw theQ theLoose theXt Yf (λ_=>true) 9000) (hY:∀ w s,Yf s=true→YP w s.heap)
  (hYk:∀ w h h',YP w h→(∀ b o,h.get? b=some o→h'.get? b=some o)→YP w h') (call:WalkO theQ theLoose (XL theQ []) YP theR.toRowW theD [] λf vs=>PySem.call f vs):PySem.Challenge.rw_xm0856_01.Holds :=
 holds_law said0 λsaid=>holds_open (r:=theR) (q:=theQ) (loose:=theLoose) (Xt:=theXt) (XP:=XL theQ []) (Yf:=Yf) (Ya:=λ_=>true) (YP:=YP) (N:=9000) left hY hYk (λs e=>xl_of s (Bool.and_eq_true_iff.mp e).1) XL.keeps def_is def_th def_kw
  (λs e=>recFacts_of (Bool.and_eq_true_iff.mp e).2) rfl said opens_ok bare_ok prom_ok call
end
end Mine
end
section
set_option maxRecDepth 100000
set_option maxHeartbeats 2000000
namespace Mine
theorem get_app {H G:Hp} {i:Nat} {o:O} (h:H[i]?=some o):(H ++ G)[i]?=some o:=by
 rw [List.getElem?_append_left (List.getElem?_eq_some_iff.mp h).1];exact h
theorem get_pre {H H':Hp} {i:Nat} {o:O} (p:H <+: H') (h:H[i]?=some o):H'[i]?=some o:=by obtain ⟨G,rfl⟩:=p;exact get_app h
theorem pre1 {H:Hp} {G:Hp}:H <+: H ++ G:=List.prefix_append _ _
theorem lt_of_get {H:Hp} {i:Nat} {o:O} (h:H[i]?=some o):i < H.length:=(List.getElem?_eq_some_iff.mp h).1
theorem get_set_eq {H:Hp} {i:Nat} {o o':O} (h:H[i]?=some o):(H.set i o')[i]?=some o':=List.getElem?_set_self (lt_of_get h)
theorem get_set_ne {H:Hp} {i j:Nat} {o o':O} (h:H[j]?=some o) (hne:j ≠ i):(H.set i o')[j]?=some o:=by
 rw [List.getElem?_set_ne (Ne.symm hne)];exact h
theorem set_mid {H G:Hp} {a b:O}:(H ++ a :: G).set H.length b=H ++ b :: G:=by simp
theorem get_mid {H G:Hp} {a:O}:(H ++ a :: G)[H.length]?=some a:=by simp
theorem set_app {A B:Hp} {i:Nat} {o:O} (h:i < A.length):(A ++ B).set i o=A.set i o ++ B:=List.set_append_left _ _ h
theorem get_off {H G:Hp} {o:O} (k:Nat) (h:G[k]?=some o):(H ++ G)[H.length + k]?=some o:=by
 rw [List.getElem?_append_right (Nat.le_add_right _ _),Nat.add_sub_cancel_left];exact h
theorem get_end {H:Hp} {o:O}:(H ++ [o])[H.length]?=some o:=get_mid
theorem len1 {H:Hp} {o:O}:(H ++ [o]).length=H.length + 1:=List.length_append
theorem attr_of {H:Hp} {i c n:Nat} {fs:List (Nat × V)} {v:V} (h:H[i]?=some (.inst c fs)) (hf:theFld c n=true) (hg:getF n fs=some v):attrOf theFld (.ref i) n H=some v:=by
 unfold attrOf;dsimp only;rw [h];dsimp only;rw [if_pos hf];exact hg
theorem meth_at {H:Hp} {i c m f:Nat} {fs:List (Nat × V)} (h:H[i]?=some (.inst c fs)) (hg:getF m fs=none) (hm:theMeth c m=some f):methOf thePrg (.ref i) m H=some f:=by
 unfold methOf;dsimp only;rw [h];dsimp only;rw [hg];exact hm
theorem setAttr_of {H:Hp} {i c n:Nat} {fs:List (Nat × V)} {v:V} (h:H[i]?=some (.inst c fs)) (hf:theFld c n=true) (hl:fs.length < 100):setAttr theFld (.ref i) n v H=some (H.set i (.inst c (setF n v fs))):=by
 unfold setAttr;dsimp only;rw [h];dsimp only;rw [hf,decide_eq_true hl];rfl
theorem truth_list {H:Hp} {r:Nat} {l:List V} (h:H[r]?=some (.list l)) (hc:l.length < capL):truth H (.ref r)=some (!l.isEmpty):=by
 unfold truth;dsimp only;rw [h];dsimp only;rw [if_pos hc]
theorem lenB {b:List UInt8} {h:Hp} (hc:b.length < capL):lenOf (.bytes b) h=some b.length:=by
 unfold lenOf;dsimp only;rw [if_pos hc]
theorem lenL {H:Hp} {r:Nat} {l:List V} (h:H[r]?=some (.list l)) (hc:l.length < capL):lenOf (.ref r) H=some l.length:=by
 unfold lenOf;dsimp only;rw [h];dsimp only;rw [if_pos hc]
theorem lenT {H:Hp} {r:Nat} {l:List V} (h:H[r]?=some (.tuple l)) (hc:l.length < capL):lenOf (.ref r) H=some l.length:=by
 unfold lenOf;dsimp only;rw [h];dsimp only;rw [if_pos hc]
theorem place_at {i n:Nat} (h:i < n):place (i:Int) n=some i:=by
 unfold place;rw [if_pos ⟨Int.natCast_nonneg i,Int.ofNat_lt.mpr h⟩];rfl
theorem idxL {H:Hp} {r i:Nat} {k:Int} {l:List V} {v:V} (h:H[r]?=some (.list l)) (hc:l.length < capL) (hk:k=i) (hv:l[i]?=some v):getIdx (.ref r) (.int k) H=some v:=by
 subst hk
 unfold getIdx;dsimp only;rw [h];dsimp only;rw [if_pos hc,place_at (List.getElem?_eq_some_iff.mp hv).1];exact hv
theorem idxT {H:Hp} {r i:Nat} {k:Int} {l:List V} {v:V} (h:H[r]?=some (.tuple l)) (hc:l.length < capL) (hk:k=i) (hv:l[i]?=some v):getIdx (.ref r) (.int k) H=some v:=by
 subst hk
 unfold getIdx;dsimp only;rw [h];dsimp only;rw [if_pos hc,place_at (List.getElem?_eq_some_iff.mp hv).1];exact hv
theorem idxN {H:Hp} {r i:Nat} {k:Int} {l:List V} {v:V} (h:H[r]?=some (.list l)) (hc:l.length < capL) (hk:k < 0) (hki:k + l.length=i) (hv:l[i]?=some v):getIdx (.ref r) (.int k) H=some v:=by
 unfold getIdx;dsimp only;rw [h];dsimp only;rw [if_pos hc]
 unfold place
 rw [if_neg (λq=>absurd q.1 (Int.not_le.mpr hk)),if_pos ⟨hk,hki ▸ Int.natCast_nonneg i,hc⟩,hki]
 exact hv
theorem getB {b:List UInt8} {i:Nat} {x:UInt8} {h:Hp} (hx:b[i]?=some x) (hc:b.length < capL):getIdx (.bytes b) (.int i) h=some (.int x.toNat):=by
 unfold getIdx;dsimp only
 rw [if_pos ⟨Int.natCast_nonneg i,Int.ofNat_lt.mpr (List.getElem?_eq_some_iff.mp hx).1,hc⟩]
 show (b[i]?.map λx=>V.int x.toNat)=_
 rw [hx];rfl
theorem isL_of {H:Hp} {r:Nat} {l:List V} (h:H[r]?=some (.list l)):isL (.ref r) H=true:=by unfold isL;dsimp only;rw [h]
theorem setIdxL {H:Hp} {r i:Nat} {l:List V} {v:V} (h:H[r]?=some (.list l)) (hc:l.length < capL) (hi:i < l.length):setIdx (.ref r) (.int i) v H=some (H.set r (.list (l.set i v))):=by
 unfold setIdx;dsimp only;rw [h];dsimp only
 rw [if_pos ⟨Int.natCast_nonneg i,hc⟩,place_at hi];rfl
theorem delIdx_of {H:Hp} {r i:Nat} {l:List V} (h:H[r]?=some (.list l)) (hc:l.length < capL) (hi:i < l.length):delIdx (.ref r) (.int i) H=some (H.set r (.list (l.eraseIdx i))):=by
 unfold delIdx;dsimp only;rw [h];dsimp only
 rw [if_pos ⟨Int.natCast_nonneg i,hc⟩,place_at hi];rfl
theorem bop_band {a b:Nat} {H:Hp}:bop .band (.int a) (.int b) H=some (.int ((a &&& b:Nat):Int),H):=if_pos (c:=(0:Int) ≤ a∧(0:Int) ≤ b) (e:=Option.none) ⟨Int.natCast_nonneg a,Int.natCast_nonneg b⟩
theorem bop_bor {a b:Nat} {H:Hp}:bop .bor (.int a) (.int b) H=some (.int ((a ||| b:Nat):Int),H):=if_pos (c:=(0:Int) ≤ a∧(0:Int) ≤ b) (e:=Option.none) ⟨Int.natCast_nonneg a,Int.natCast_nonneg b⟩
theorem and_255 (a:Nat):a &&& 255=a % 256:=Nat.and_two_pow_sub_one_eq_mod a 8
theorem and_max32 (a:Nat):a &&& 4294967295=a % 4294967296:=Nat.and_two_pow_sub_one_eq_mod a 32
theorem bop_255 {a:Nat} {H:Hp}:bop .band (.int a) (.int 255) H=some (.int ((a % 256:Nat):Int),H):=by rw [← and_255];exact bop_band (b:=255)
theorem bop_shr {a:Nat} (b:Nat) {H:Hp} (hb:b < 64):bop .shr (.int a) (.int b) H=some (.int ((a / 2 ^ b:Nat):Int),H):=if_pos ⟨Int.natCast_nonneg a,Int.natCast_nonneg b,Int.ofNat_lt.mpr hb⟩
theorem bop_shl {a:Nat} (b:Nat) {H:Hp} (ha:a < 2 ^ 64) (hb:b < 64):bop .shl (.int a) (.int b) H=some (.int ((a * 2 ^ b:Nat):Int),H):=by
 unfold bop bopI;dsimp only
 rw [if_pos ⟨Int.natCast_nonneg a,Int.natCast_nonneg b,Int.ofNat_lt.mpr hb,Int.ofNat_lt.mpr ha⟩,Int.natCast_mul,Int.natCast_pow];rfl
theorem bop_mod {a b:Nat} {H:Hp} (hb:0 < b):bop .mod (.int a) (.int b) H=some (.int ((a % b:Nat):Int),H):=if_pos (Int.ofNat_lt.mpr hb)
theorem bop_fdiv {a b:Nat} {H:Hp} (hb:0 < b) (h2:b < 1073741824):bop .fdiv (.int a) (.int b) H=some (.int ((a / b:Nat):Int),H):=if_pos ⟨Int.ofNat_lt.mpr hb,Int.ofNat_lt.mpr h2⟩
theorem lt_no {a b:Int} {H:Hp} (h:b ≤ a):cop .lt (.int a) (.int b) H=some false:=congrArg some (decide_eq_false (Int.not_lt.mpr h))
theorem lt_yes {a b:Int} {H:Hp} (h:a < b):cop .lt (.int a) (.int b) H=some true:=congrArg some (decide_eq_true h)
theorem gt_no {a b:Int} {H:Hp} (h:a ≤ b):cop .gt (.int a) (.int b) H=some false:=congrArg some (decide_eq_false (Int.not_lt.mpr h))
theorem gt_yes {a b:Int} {H:Hp} (h:b < a):cop .gt (.int a) (.int b) H=some true:=congrArg some (decide_eq_true h)
theorem ge_yes {a b:Int} {H:Hp} (h:b ≤ a):cop .ge (.int a) (.int b) H=some true:=congrArg some (decide_eq_true h)
theorem eq_no {a b:Int} {H:Hp} (h:a ≠ b):cop .eq (.int a) (.int b) H=some false:=congrArg some (beq_eq_false_iff_ne.mpr h)
theorem eq_yes {a b:Int} {H:Hp} (h:a=b):cop .eq (.int a) (.int b) H=some true:=congrArg some (beq_iff_eq.mpr h)
theorem ne_no {a b:Int} {H:Hp} (h:a=b):cop .ne (.int a) (.int b) H=some false:=congrArg (λx=>some (!x)) (beq_iff_eq.mpr h)
theorem ne_yes {a b:Int} {H:Hp} (h:a ≠ b):cop .ne (.int a) (.int b) H=some true:=congrArg (λx=>some (!x)) (beq_eq_false_iff_ne.mpr h)
section
variable {call:CallF} {s e:En} {H H1 H2 H3:Hp} {a b o i:E} {as:Es} {u v w k:V} {vs:List V} {x n:Nat} {r:SRes} {c:Bool}
noncomputable abbrev EV (call:CallF) (a:E) (s:En) (H:Hp) (v:V) (H':Hp):Prop:=ev thePrg call a s H=some (v,H')
noncomputable abbrev EVs (call:CallF) (as:Es) (s:En) (H:Hp) (v:List V) (H':Hp):Prop:=evs thePrg call as s H=some (v,H')
noncomputable abbrev TV (call:CallF) (a:E) (s:En) (H:Hp) (b:Bool) (H':Hp):Prop:=tv thePrg call a s H=some (b,H')
noncomputable abbrev EX (call:CallF) (st:S) (s:En) (H:Hp) (r:SRes):Prop:=ex thePrg call st s H=r
noncomputable abbrev EXs (call:CallF) (st:Ss) (s:En) (H:Hp) (r:SRes):Prop:=exs thePrg call st s H=r
theorem o1 {o:Option (V × Hp)} {f:V→Hp→Option (V × Hp)} {q:Option (V × Hp)} (h:o=some (u,H1)) (k:f u H1=q):(match (generalizing:=false) o with | some (u,h)=>f u h | _=>Option.none)=q:=by rw [h];exact k
theorem o2 {o:Option (V × Hp)} {g:Hp→Option (V × Hp)} {f:V→V→Hp→Option (V × Hp)} {q:Option (V × Hp)} (h:o=some (u,H1)) (h2:g H1=some (w,H2)) (k:f u w H2=q) :
  (match (generalizing:=false) o with | some (u,h)=>(match g h with | some (v,h)=>f u v h | _=>Option.none) | _=>Option.none)=q:=o1 (f:=λu h=>match g h with | some (v,h)=>f u v h | _=>Option.none) h (o1 (f:=f u) h2 k)
theorem os {o:Option (List V × Hp)} {f:List V→Hp→Option (V × Hp)} {q:Option (V × Hp)} (h:o=some (vs,H1)) (k:f vs H1=q):(match (generalizing:=false) o with | some (u,h)=>f u h | _=>Option.none)=q:=by rw [h];exact k
theorem ev_var (h:look s x=some v):EV call (.var x) s H v H:=congrArg (λo:Option V=>o.map λv=>(v,H)) h
theorem ev_int {j:Int}:EV call (.int j) s H (.int j) H:=rfl
theorem ev_gint {j:Int}:EV call (.gint x j) s H (.int j) H:=rfl
theorem ev_neg {j:Int}:EV call (.neg j) s H (.int (-j)) H:=rfl
theorem ev_none:EV call .none s H .none H:=rfl
theorem ev_bool:EV call (.bool c) s H (.bool c) H:=rfl
theorem ev_bytes {l:List UInt8}:EV call (.bytes l) s H (.bytes l) H:=rfl
theorem ev_cvar {i:Nat} {v:V} (hx:look s x=some (.ref i)) (hc:H[i]?=some (.cell (some v))):EV call (.cvar x) s H v H:=by
 show (match look s x with | some (.ref i)=>(match H[i]? with | some (.cell (some v))=>some (v,H) | _=>Option.none) | _=>Option.none)=_
 rw [hx];dsimp only;rw [hc]
theorem ev_bin {op:Bop} (ha:EV call a s H u H1) (hb:EV call b s H1 w H2) (hf:bop op u w H2=some (v,H3)):EV call (.bin op a b) s H v H3:=o2 (g:=λh=>ev thePrg call b s h) (f:=bop op) ha hb hf
theorem ev_cmp {op:Cop} (ha:EV call a s H u H1) (hb:EV call b s H1 w H2) (hf:cop op u w H2=some c):EV call (.cmp op a b) s H (.bool c) H2:=o2 (g:=λh=>ev thePrg call b s h) (f:=λu v h=>(cop op u v h).map λc=>(V.bool c,h)) ha hb (by rw [hf];rfl)
theorem ev_isNone (ha:EV call a s H u H1) (hc:(u == V.none)=c):EV call (.isNone a) s H (.bool c) H1:=o1 (f:=λu h=>some (V.bool (u == .none),h)) ha (by rw [hc])
theorem ev_notNone (ha:EV call a s H u H1) (hc:(u != V.none)=c):EV call (.notNone a) s H (.bool c) H1:=o1 (f:=λu h=>some (V.bool (u != .none),h)) ha (by rw [hc])
theorem ev_not {d:Bool} (ha:EV call a s H u H1) (ht:truth H1 u=some d) (hc:(!d)=c):EV call (.not a) s H (.bool c) H1:=o1 (f:=λu h=>(truth h u).map λb=>(V.bool (!b),h)) ha (by rw [ht,← hc];rfl)
theorem ev_and_t (ha:EV call a s H u H1) (ht:truth H1 u=some true) (hb:EV call b s H1 v H2):EV call (.and a b) s H v H2:=o1 (f:=λu h=>match truth h u with | some true=>ev thePrg call b s h | some false=>some (u,h) | Option.none=>Option.none) ha (by rw [ht];exact hb)
theorem ev_and_f (ha:EV call a s H u H1) (ht:truth H1 u=some false):EV call (.and a b) s H u H1:=o1 (f:=λu h=>match truth h u with | some true=>ev thePrg call b s h | some false=>some (u,h) | Option.none=>Option.none) ha (by rw [ht])
theorem ev_or_f (ha:EV call a s H u H1) (ht:truth H1 u=some false) (hb:EV call b s H1 v H2):EV call (.or a b) s H v H2:=o1 (f:=λu h=>match truth h u with | some true=>some (u,h) | some false=>ev thePrg call b s h | Option.none=>Option.none) ha (by rw [ht];exact hb)
theorem ev_or_t (ha:EV call a s H u H1) (ht:truth H1 u=some true):EV call (.or a b) s H u H1:=o1 (f:=λu h=>match truth h u with | some true=>some (u,h) | some false=>ev thePrg call b s h | Option.none=>Option.none) ha (by rw [ht])
theorem ev_attr (ha:EV call a s H u H1) (hk:attrOf theFld u n H1=some v):EV call (.attr a n) s H v H1:=o1 (f:=λu h=>(attrOf theFld u n h).map λv=>(v,h)) ha (by rw [hk];rfl)
theorem ev_av {i c:Nat} {fs:List (Nat × V)} (hx:look s x=some (.ref i)) (h:H[i]?=some (.inst c fs)) (hf:theFld c n=true) (hg:getF n fs=some v):EV call (.attr (.var x) n) s H v H:=ev_attr (ev_var hx) (attr_of h hf hg)
theorem ev_key (ha:EV call a s H u H1) (hk:keyOf u n H1=some v):EV call (.key a n) s H v H1:=o1 (f:=λu h=>(keyOf u n h).map λv=>(v,h)) ha (by rw [hk];rfl)
theorem ev_idx (ha:EV call a s H u H1) (hb:EV call b s H1 w H2) (hk:getIdx u w H2=some v):EV call (.idx a b) s H v H2:=o2 (g:=λh=>ev thePrg call b s h) (f:=λu k h=>(getIdx u k h).map λv=>(v,h)) ha hb (by rw [hk];rfl)
theorem ev_len {m:Nat} (ha:EV call a s H u H1) (hk:lenOf u H1=some m):EV call (.len a) s H (.int m) H1:=o1 (f:=λu h=>(lenOf u h).map fun (n:Nat)=>(V.int n,h)) ha (by rw [hk];rfl)
theorem evs_nil:EVs call .nil s H [] H:=rfl
theorem evs_cons (ha:EV call a s H v H1) (hb:EVs call as s H1 vs H2):EVs call (.cons a as) s H (v :: vs) H2:=by
 show (match ev thePrg call a s H with | some (v,h)=>(match evs thePrg call as s h with | some (vs,h)=>some (v :: vs,h) | _=>Option.none) | _=>Option.none)=_
 rw [ha];dsimp only;rw [hb]
theorem ev_call {f:Nat} (ha:EVs call as s H vs H1) (hc:call f vs H1 = .val v H2):EV call (.call f as) s H v H2:=os (f:=λvs h=>match call f vs h with | .val v h=>some (v,h) | _=>Option.none) ha (by rw [hc])
theorem ev_meth {f:Nat} (ho:EV call o s H u H1) (hm:methOf thePrg u n H1=some f) (ha:EVs call as s H1 vs H2) (hc:call f (u :: vs) H2 = .val v H3):EV call (.meth o n as) s H v H3 :=
 o1 (f:=λu h=>match methOf thePrg u n h with | some f=>(match evs thePrg call as s h with | some (vs,h)=>(match call f (u :: vs) h with | .val v h=>some (v,h) | _=>Option.none) | _=>Option.none) | _=>Option.none) ho
  (by rw [hm];exact os (f:=λvs h=>match call f (u :: vs) h with | .val v h=>some (v,h) | _=>Option.none) ha (by rw [hc]))
theorem ev_new {f c:Nat} (hf:theInit c=some (some f)) (ha:EVs call as s H vs H1) (hc:call f (.ref H1.length :: vs) (H1 ++ [.inst c []]) = .val .none H2):EV call (.new c as) s H (.ref H1.length) H2:=os (f:=newF thePrg call c) ha (by
 have hf:thePrg.init c=some (some f):=hf
 unfold newF;rw [hf];dsimp only;rw [hc])
theorem ev_new0 {c:Nat} (hf:theInit c=some Option.none):EV call (.new c .nil) s H (.ref H.length) (H ++ [.inst c []]):=by
 have hf:thePrg.init c=some Option.none:=hf
 show newF thePrg call c [] H=_
 unfold newF;rw [hf];rfl
theorem ev_list (ha:EVs call as s H vs H1):EV call (.list as) s H (.ref H1.length) (H1 ++ [.list vs]):=os (f:=λvs h=>some (V.ref h.length,h ++ [O.list vs])) ha rfl
theorem ev_tuple (ha:EVs call as s H vs H1):EV call (.tuple as) s H (.ref H1.length) (H1 ++ [.tuple vs]):=os (f:=λvs h=>some (V.ref h.length,h ++ [O.tuple vs])) ha rfl
theorem ev_bytesOf_b {l:List UInt8} (ha:EV call a s H (.bytes l) H1):EV call (.bytesOf a) s H (.bytes l) H1:=o1 (f:=bytesF) ha rfl
theorem ev_bytesOf_l {m:Nat} {l:List V} {bs:List UInt8} (ha:EV call a s H (.ref m) H1) (hl:H1[m]?=some (.list l)) (hc:l.length < capL) (hb:(ints? l).bind toBytes=some bs):EV call (.bytesOf a) s H (.bytes bs) H1 :=
 o1 (f:=bytesF) ha (by unfold bytesF;dsimp only;rw [hl];dsimp only;rw [if_pos hc,hb];rfl)
theorem ev_max {i j:Int} (ha:EV call a s H (.int i) H1) (hb:EV call b s H1 (.int j) H2):EV call (.max a b) s H (.int (if i < j then j else i)) H2:=o2 (g:=λh=>ev thePrg call b s h) (f:=maxF) ha hb rfl
theorem ev_min {i j:Int} (ha:EV call a s H (.int i) H1) (hb:EV call b s H1 (.int j) H2):EV call (.min a b) s H (.int (if j < i then j else i)) H2:=o2 (g:=λh=>ev thePrg call b s h) (f:=minF) ha hb rfl
theorem ev_slice_b {l:List UInt8} {k:Int} (ha:EV call a s H (.bytes l) H1) (hb:EV call b s H1 (.int k) H2) (h0:0 ≤ k) (h1:k < capL) (hc:l.length < capL):EV call (.sliceTo a b) s H (.bytes (l.take k.toNat)) H2 :=
 o2 (g:=λh=>ev thePrg call b s h) (f:=slF) ha hb ((if_pos ⟨h0,h1⟩).trans (if_pos hc))
theorem ev_slice_l {m:Nat} {l:List V} {k:Int} (ha:EV call a s H (.ref m) H1) (hb:EV call b s H1 (.int k) H2) (h0:0 ≤ k) (h1:k < capL) (hl:H2[m]?=some (.list l)) (hc:l.length < capL):EV call (.sliceTo a b) s H (.ref H2.length) (H2 ++ [.list (l.take k.toNat)]) :=
 o2 (g:=λh=>ev thePrg call b s h) (f:=slF) ha hb ((if_pos ⟨h0,h1⟩).trans (by rw [hl];exact if_pos hc))
theorem ev_rev {m:Nat} {l:List V} (ha:EV call a s H (.ref m) H1) (hl:H1[m]?=some (.list l)) (hc:l.length < capL):EV call (.rev a) s H (.ref H1.length) (H1 ++ [.list l.reverse]):=o1 (f:=revF) ha (by show (match H1[m]? with | some (.list l)=>if l.length < capL then some (V.ref H1.length,H1 ++ [O.list l.reverse]) else Option.none | _=>Option.none)=_;rw [hl];exact if_pos hc)
theorem ev_isIn {m:Nat} {l:List V} {k:Int} {ns:List Int} (ha:EV call a s H (.int k) H1) (hb:EV call b s H1 (.ref m) H2) (hl:H2[m]?=some (.list l)) (hc:l.length < capL) (hn:ints? l=some ns) (hk:ns.contains k=c):EV call (.isIn a b) s H (.bool c) H2 :=
 o2 (g:=λh=>ev thePrg call b s h) (f:=isInF) ha hb (by unfold isInF;dsimp only;rw [hl];dsimp only;rw [if_pos hc,hn,← hk];rfl)
theorem oL {f:V→V→Hp→Option (V × Hp)} {q:Option (V × Hp)} (ho:EV call o s H u H1) (hL:isL u H1=true) (ha:EV call a s H1 w H2) (k:f u w H2=q) :
  (match ev thePrg call o s H with | some (u,h)=>if isL u h then (match ev thePrg call a s h with | some (v,h)=>f u v h | _=>Option.none) else Option.none | _=>Option.none)=q :=
 o1 (f:=λu h=>if isL u h then (match ev thePrg call a s h with | some (v,h)=>f u v h | _=>Option.none) else Option.none) ho (by rw [if_pos hL];exact o1 (f:=f u) ha k)
theorem ev_append {m:Nat} {l:List V} (ho:EV call o s H (.ref m) H1) (hL:isL (.ref m) H1=true) (ha:EV call a s H1 v H2) (hl:H2[m]?=some (.list l)) (hc:l.length < capL):EV call (.append o a) s H .none (H2.set m (.list (l ++ [v]))) :=
 oL (f:=λu v h=>listOp u (appendF v) h) ho hL ha (by unfold listOp appendF;dsimp only;rw [hl];dsimp only;rw [if_pos hc];rfl)
theorem ev_remove {m n':Nat} {l:List V} {k:Int} {ns:List Int} (ho:EV call o s H (.ref m) H1) (hL:isL (.ref m) H1=true) (ha:EV call a s H1 (.int k) H2) (hl:H2[m]?=some (.list l)) (hc:l.length < capL) (hn:ints? l=some ns) (hf:findV k l=some n') :
  EV call (.remove o a) s H .none (H2.set m (.list (l.eraseIdx n'))) :=
 oL (f:=remF) ho hL ha (by unfold remF listOp removeF;dsimp only;rw [hl];dsimp only;rw [if_pos hc,hn,if_pos (show (some ns).isSome=true from rfl),hf];rfl)
theorem set_same {i:Nat} {o:O} (h:H[i]?=some o):H.set i o=H:=by
 apply List.ext_getElem?
 intro j
 by_cases q:j=i
 ·subst q;rw [get_set_eq h,h]
 ·rw [List.getElem?_set_ne (Ne.symm q)]
theorem ev_index {m n':Nat} {l:List V} {k:Int} {ns:List Int} (ho:EV call o s H (.ref m) H1) (hL:isL (.ref m) H1=true) (ha:EV call a s H1 (.int k) H2) (hl:H2[m]?=some (.list l)) (hc:l.length < capL) (hn:ints? l=some ns) (hf:findV k l=some n') :
  EV call (.index o a) s H (.int n') H2 :=
 oL (f:=idxF) ho hL ha (by
  unfold idxF listOp indexF;dsimp only;rw [hl];dsimp only;rw [if_pos hc,hn,if_pos (show (some ns).isSome=true from rfl),hf]
  exact congrArg (λh=>some (V.int n',h)) (set_same hl))
theorem ev_pop {m:Nat} {l:List V} (ho:EV call o s H (.ref m) H1) (hl:H1[m]?=some (.list (l ++ [v]))) (hc:(l ++ [v]).length < capL):EV call (.pop o) s H v (H1.set m (.list l)) :=
 o1 (f:=λu h=>listOp u popF h) ho (by unfold listOp popF;dsimp only;rw [hl];dsimp only;rw [if_pos hc];simp)
theorem ev_all {m:Nat} {l:List V} {bs:List Bool} (ha:EV call a s H (.ref m) H1) (hl:H1[m]?=some (.list l)) (hc:l.length < capL) (hb:bools? l=some bs) (hk:bs.all id=c):EV call (.all a) s H (.bool c) H1 :=
 o1 (f:=allF) ha (by unfold allF;dsimp only;rw [hl];dsimp only;rw [if_pos hc,hb,← hk];rfl)
theorem ev_sorted {m:Nat} (ha:EV call a s H (.ref m) H1) (hl:H1[m]?=some (.list theKeys)):EV call (.sortedKeys a) s H (.ref H1.length) (H1 ++ [.list keysSorted]) :=
 o1 (f:=sortF) ha (by unfold sortF;dsimp only;rw [hl];exact if_pos rfl)
theorem ev_dict {ks:List Nat} (ha:EVs call as s H vs H1) (hl:ks.length=vs.length):EV call (.dict ks as) s H (.ref H1.length) (H1 ++ [.dict (ks.zip vs)]):=os (f:=λvs h=>if ks.length=vs.length then some (V.ref h.length,h ++ [O.dict (ks.zip vs)]) else Option.none) ha (if_pos hl)
theorem tv_of (ha:EV call a s H u H1) (ht:truth H1 u=some c):TV call a s H c H1:=by
 unfold TV tv
 rw [ha];dsimp only;rw [ht];rfl
theorem tv_b (ha:EV call a s H (.bool c) H1):TV call a s H c H1:=tv_of ha rfl
theorem tv_cmp {op:Cop} (ha:EV call a s H u H1) (hb:EV call b s H1 w H2) (hf:cop op u w H2=some c):TV call (.cmp op a b) s H c H2:=tv_b (ev_cmp ha hb hf)
theorem x1 {o:Option (V × Hp)} {f:V→Hp→SRes} (h:o=some (u,H1)) (k:f u H1=r):(match (generalizing:=false) o with | some (u,h)=>f u h | _=>SRes.bad)=r:=by rw [h];exact k
theorem ex_assign (ha:EV call a s H v H1):EX call (.assign x a) s H (.nx (put s x v) H1):=x1 (f:=λv h=>SRes.nx (put s x v) h) ha rfl
theorem ex_assignComp (ha:EV call a s H v H1):EX call (.assignComp x a) s H (.nx (put s x v) H1):=x1 (f:=λv h=>SRes.nx (put s x v) h) ha rfl
theorem ex_cassign {i:Nat} {d:Option V} (ha:EV call a s H v H1) (hx:look s x=some (.ref i)) (hc:H1[i]?=some (.cell d)):EX call (.cassign x a) s H (.nx s (H1.set i (.cell (some v)))) :=
 x1 (f:=λv h=>match look s x with | some (.ref i)=>(match h[i]? with | some (.cell _)=>.nx s (h.set i (.cell (some v))) | _=>.bad) | _=>.bad) ha (by rw [hx];dsimp only;rw [hc])
theorem ex_unpack {xs:List Nat} {l:List V} (ha:EV call a s H v H1) (ht:tupOf v H1=some l) (hp:puts s xs l=some e):EX call (.unpack xs a) s H (.nx e H1) :=
 x1 (f:=λv h=>match tupOf v h with | some l=>(match puts s xs l with | some e=>.nx e h | _=>.bad) | _=>.bad) ha (by rw [ht];dsimp only;rw [hp])
theorem ex_setattr (ha:EV call a s H v H1) (ho:EV call o s H1 u H2) (hs:setAttr theFld u n v H2=some H3):EX call (.setattr o n a) s H (.nx s H3) :=
 x1 (f:=λv h=>match ev thePrg call o s h with | some (u,h)=>(match setAttr theFld u n v h with | some h=>.nx s h | _=>.bad) | _=>.bad) ha (x1 (f:=λu h=>match setAttr theFld u n v h with | some h=>.nx s h | _=>.bad) ho (by rw [hs]))
theorem ex_sv {i c:Nat} {fs:List (Nat × V)} (ha:EV call a s H v H1) (hx:look s x=some (.ref i)) (h:H1[i]?=some (.inst c fs)) (hf:theFld c n=true) (hl:fs.length < 100):EX call (.setattr (.var x) n a) s H (.nx s (H1.set i (.inst c (setF n v fs)))):=ex_setattr ha (ev_var hx) (setAttr_of h hf hl)
theorem ex_setidx (ha:EV call a s H v H1) (ho:EV call o s H1 u H2) (hi:EV call i s H2 k H3) {H4:Hp} (hs:setIdx u k v H3=some H4):EX call (.setidx o i a) s H (.nx s H4) :=
 x1 (f:=λv h=>match ev thePrg call o s h with | some (u,h)=>(match ev thePrg call i s h with | some (k,h)=>(match setIdx u k v h with | some h=>.nx s h | _=>.bad) | _=>.bad) | _=>.bad) ha
  (x1 (f:=λu h=>match ev thePrg call i s h with | some (k,h)=>(match setIdx u k v h with | some h=>.nx s h | _=>.bad) | _=>.bad) ho (x1 (f:=λk h=>match setIdx u k v h with | some h=>.nx s h | _=>.bad) hi (by rw [hs])))
theorem ex_delidx (ho:EV call o s H u H1) (hi:EV call i s H1 k H2) (hs:delIdx u k H2=some H3):EX call (.delidx o i) s H (.nx s H3) :=
 x1 (f:=λu h=>match ev thePrg call i s h with | some (k,h)=>(match delIdx u k h with | some h=>.nx s h | _=>.bad) | _=>.bad) ho (x1 (f:=λk h=>match delIdx u k h with | some h=>.nx s h | _=>.bad) hi (by rw [hs]))
theorem ex_aug {op:Bop} {i j:Int} (hx:look s x=some (.int i)) (ha:EV call a s H (.int j) H1) (hb:bop op (.int i) (.int j) H1=some (v,H2)):EX call (.aug x op a) s H (.nx (put s x v) H2):=by
 show (match look s x with | some (.int i)=>(match ev thePrg call a s H with | some (.int j,h)=>(match bop op (.int i) (.int j) h with | some (v,h)=>SRes.nx (put s x v) h | _=>.bad) | _=>.bad) | _=>.bad)=_
 rw [hx];dsimp only;rw [ha];dsimp only;rw [hb]
theorem ex_augattr {op:Bop} {i j:Int} (ho:EV call o s H u H1) (hk:attrOf theFld u n H1=some (.int i)) (ha:EV call a s H1 (.int j) H2) (hb:bop op (.int i) (.int j) H2=some (v,H2)) (hs:setAttr theFld u n v H2=some H3):EX call (.augattr o n op a) s H (.nx s H3):=by
 refine x1 (f:=λu h=>match attrOf theFld u n h with | some (.int i)=>(match ev thePrg call a s h with | some (.int j,h)=>(match bop op (.int i) (.int j) h with | some (v,h)=>(match setAttr theFld u n v h with | some h=>SRes.nx s h | _=>.bad) | _=>.bad) | _=>.bad) | _=>.bad) ho ?_
 rw [hk];dsimp only;rw [ha];dsimp only;rw [hb];dsimp only;rw [hs]
noncomputable def isRf (v:V):Bool:=V.casesOn v false (λ_=>false) (λ_=>false) (λ_=>false) λ_=>true
theorem ex_expr (ha:EV call a s H v H1) (hv:isRf v=false):EX call (.expr a) s H (.nx s H1):=by
 show (match ev thePrg call a s H with | some (.ref _,_)=>SRes.bad | some (_,h)=>.nx s h | _=>.bad)=_
 rw [ha]
 induction v <;> first | rfl | exact Bool.noConfusion (show true=false from hv)
theorem ex_ite_t {A B:Ss} (ht:TV call a s H true H1) (hb:EXs call A s H1 r):EX call (.ite a A B) s H r:=by
 show (match tv thePrg call a s H with | some (true,h)=>exs thePrg call A s h | some (false,h)=>exs thePrg call B s h | Option.none=>.bad)=_
 rw [ht];exact hb
theorem ex_ite_f {A B:Ss} (ht:TV call a s H false H1) (hb:EXs call B s H1 r):EX call (.ite a A B) s H r:=by
 show (match tv thePrg call a s H with | some (true,h)=>exs thePrg call A s h | some (false,h)=>exs thePrg call B s h | Option.none=>.bad)=_
 rw [ht];exact hb
theorem ex_ret (ha:EV call a s H v H1):EX call (.ret a) s H (.ret v H1):=x1 (f:=λv h=>SRes.ret v h) ha rfl
theorem ex_ret0:EX call .ret0 s H (.ret .none H):=rfl
theorem ex_raise {k:Nat}:EX call (.raise k) s H (.exc k H):=rfl
theorem ex_brk:EX call .brk s H (.brk s H):=rfl
theorem exs_nil:EXs call .nil s H (.nx s H):=rfl
theorem x2 {o:SRes} {f:En→Hp→SRes} (h:o = .nx e H1) (k:f e H1=r):(match (generalizing:=false) o with | .nx e h=>f e h | r=>r)=r:=by rw [h];exact k
theorem exs_nx {st:S} {ss:Ss} (h1:EX call st s H (.nx e H1)) (h2:EXs call ss e H1 r):EXs call (.cons st ss) s H r:=x2 (f:=λe h=>exs thePrg call ss e h) h1 h2
theorem x3 {st:S} {ss:Ss} (h1:EX call st s H r) (k:(match (generalizing:=false) r with | .nx e h=>exs thePrg call ss e h | r=>r)=r):EXs call (.cons st ss) s H r:=by
 show (match ex thePrg call st s H with | .nx e h=>exs thePrg call ss e h | r=>r)=r
 rw [h1];exact k
theorem exs_ret {st:S} {ss:Ss} (h1:EX call st s H (.ret v H1)):EXs call (.cons st ss) s H (.ret v H1):=x3 h1 rfl
theorem exs_brk {st:S} {ss:Ss} (h1:EX call st s H (.brk e H1)):EXs call (.cons st ss) s H (.brk e H1):=x3 h1 rfl
theorem exs_exc {k:Nat} {st:S} {ss:Ss} (h1:EX call st s H (.exc k H1)):EXs call (.cons st ss) s H (.exc k H1):=x3 h1 rfl
theorem exs_no {A ss:Ss} (t:TV call a s H false H1) (h:EXs call ss s H1 r):EXs call (.cons (.ite a A .nil) ss) s H r:=exs_nx (ex_ite_f t exs_nil) h
theorem exs_yes {A B ss:Ss} (t:TV call a s H true H1) (h:EXs call A s H1 (.ret v H2)):EXs call (.cons (.ite a A B) ss) s H (.ret v H2):=exs_ret (ex_ite_t t h)
theorem exs_val {ss:Ss} (h:EV call a s H v H1):EXs call (.cons (.ret a) ss) s H (.ret v H1):=exs_ret (ex_ret h)
theorem tv_rng {g m:Nat} (hx:look s x=some (.int n)) (h:n ≤ m):TV call (.or (.cmp .lt (.var x) (.int 0)) (.cmp .gt (.var x) (.gint g m))) s H false H:=tv_b (ev_or_f (ev_cmp (ev_var hx) ev_int (lt_no (Int.natCast_nonneg n))) rfl (ev_cmp (ev_var hx) ev_gint (gt_no (Int.ofNat_le.mpr h))))
theorem ex_tryA {f k y:Nat} {hret:Option E} {c:CRes} (ho:EV call o s H u H1) (hm:methOf thePrg u n H1=some f) (ha:EVs call as s H1 vs H2) (hc:call f (u :: vs) H2=c) (hr:tryRes c s (λv h=>.nx (put s x v) h) k (hdlF thePrg call hret y)=r):EX call (.tryA x o n as k hret y) s H r:=by
 refine x1 (f:=λu h=>match methOf thePrg u n h with | some f=>(match evs thePrg call as s h with | some (vs,h)=>tryRes (call f (u :: vs) h) s (λv h=>.nx (put s x v) h) k (hdlF thePrg call hret y) | _=>.bad) | _=>.bad) ho ?_
 rw [hm];dsimp only;rw [ha];dsimp only;rw [hc];exact hr
theorem ex_tryA_val {f k y:Nat} {hret:Option E} (ho:EV call o s H u H1) (hm:methOf thePrg u n H1=some f) (ha:EVs call as s H1 vs H2) (hc:call f (u :: vs) H2 = .val v H3):EX call (.tryA x o n as k hret y) s H (.nx (put s x v) H3):=ex_tryA ho hm ha hc rfl
theorem ex_tryA_ret {f k y:Nat} {H4:Hp} (ho:EV call o s H u H1) (hm:methOf thePrg u n H1=some f) (ha:EVs call as s H1 vs H2) (hc:call f (u :: vs) H2 = .exc k H3) (hr:EV call a s H3 v H4):EX call (.tryA x o n as k (some a) y) s H (.ret v H4):=ex_tryA ho hm ha hc ((if_pos rfl).trans (x1 (f:=λv h=>SRes.ret v h) hr rfl))
theorem ex_tryA_none {f k y:Nat} (ho:EV call o s H u H1) (hm:methOf thePrg u n H1=some f) (ha:EVs call as s H1 vs H2) (hc:call f (u :: vs) H2 = .exc k H3):EX call (.tryA x o n as k Option.none y) s H (.nx (put s y .none) H3):=ex_tryA ho hm ha hc (if_pos rfl)
theorem ex_tryE {f k:Nat} {c:CRes} (ho:EV call o s H u H1) (hm:methOf thePrg u n H1=some f) (ha:EVs call as s H1 vs H2) (hc:call f (u :: vs) H2=c) (hr:tryRes c s (λv h=>match v with | .none=>.nx s h | _=>.bad) k (hdlF thePrg call (some a) 0)=r):EX call (.tryE o n as k a) s H r:=by
 refine x1 (f:=λu h=>match methOf thePrg u n h with | some f=>(match evs thePrg call as s h with | some (vs,h)=>tryRes (call f (u :: vs) h) s (λv h=>match v with | .none=>.nx s h | _=>.bad) k (hdlF thePrg call (some a) 0) | _=>.bad) | _=>.bad) ho ?_
 rw [hm];dsimp only;rw [ha];dsimp only;rw [hc];exact hr
theorem ex_tryE_val {f k:Nat} (ho:EV call o s H u H1) (hm:methOf thePrg u n H1=some f) (ha:EVs call as s H1 vs H2) (hc:call f (u :: vs) H2 = .val .none H3):EX call (.tryE o n as k a) s H (.nx s H3):=ex_tryE ho hm ha hc rfl
theorem ex_tryE_ret {f k:Nat} {H4:Hp} (ho:EV call o s H u H1) (hm:methOf thePrg u n H1=some f) (ha:EVs call as s H1 vs H2) (hc:call f (u :: vs) H2 = .exc k H3) (hr:EV call a s H3 v H4):EX call (.tryE o n as k a) s H (.ret v H4):=ex_tryE ho hm ha hc ((if_pos rfl).trans (x1 (f:=λv h=>SRes.ret v h) hr rfl))
noncomputable def Turn (R:SRes→Prop) (N:En→Hp→Prop):SRes→Prop
 | .nx e' h'=>N e' h'
 | .brk e' h'=>R (.nx e' h')
 | .ret v h'=>R (.ret v h')
 | _=>False
theorem Turn.go {R:SRes→Prop} {N:En→Hp→Prop} {f:En→Hp→SRes} {o:SRes} (h:o=r) (t:Turn R N r) (k:∀ e h,N e h→R (f e h)):R (match (generalizing:=false) o with | .nx e h=>f e h | .brk e h=>.nx e h | .ret v h=>.ret v h | _=>.bad):=by
 subst h
 induction o <;> first | exact k _ _ t | exact t | exact t.elim
inductive Ends (call:CallF) (st:S) (s:En) (H:Hp) (R:SRes→Prop):Prop where
 | mk (r:SRes) (e:EX call st s H r) (h:R r)
inductive Step (call:CallF) (body:Ss) (s:En) (H:Hp) (R:SRes→Prop) (N:En→Hp→Prop):Prop where
 | mk (r:SRes) (e:EXs call body s H r) (t:Turn R N r)
inductive StepT (call:CallF) (body:Ss) (xs:List Nat) (v:V) (s:En) (H:Hp) (R:SRes→Prop) (N:En→Hp→Prop):Prop where
 | mk (vs:List V) (e':En) (r:SRes) (h1:tupOf v H=some vs) (h2:puts s xs vs=some e') (e:EXs call body e' H r) (t:Turn R N r)
theorem ex_while {B:Ss} (R:SRes→Prop) (I:Nat→En→Hp→Prop) {k:Nat} (hk:k < capL) (h0:I k s H)
  (step:∀ k e h,I k e h→(∃ h1,TV call a e h false h1∧R (.nx e h1))∨(∃ h1,TV call a e h true h1∧Step call B e h1 R λe' h'=>∃ k',k' < k∧I k' e' h')):Ends call (.while a B) s H R:=by
 have go:∀ n k e h,k < n→I k e h→R (wloop (λe h=>tv thePrg call a e h) (λe h=>exs thePrg call B e h) n e h):=by
  intro n
  induction n with
  | zero=>exact λk e h hk=>absurd hk (Nat.not_lt_zero k)
  | succ n ih =>
   intro k e h hk hI
   show R (match tv thePrg call a e h with | some (true,h)=>(match exs thePrg call B e h with | .nx e h=>wloop (λe h=>tv thePrg call a e h) (λe h=>exs thePrg call B e h) n e h | .brk e h=>.nx e h | .ret v h=>.ret v h | _=>.bad) | some (false,h)=>.nx e h | Option.none=>.bad)
   rcases step k e h hI with ⟨h1,ht,hR⟩ | ⟨h1,ht,r,hb,hT⟩
   ·rw [ht];exact hR
   ·rw [ht]
    exact hT.go hb λe' h' ⟨k',hl,hI'⟩=>ih k' e' h' (Nat.lt_of_lt_of_le hl (Nat.le_of_lt_succ hk)) hI'
 exact ⟨_,rfl,go capL k s H hk h0⟩
theorem ex_forR {A B C:E} {body:Ss} {i j k:Int} (R:SRes→Prop) (I:Nat→En→Hp→Prop) (ha:EV call A s H (.int i) H1) (hb:EV call B s H1 (.int j) H2) (hc:EV call C s H2 (.int k) H3) (hok:rangeOk i j k=true) (h0:I 0 s H3)
  (step:∀ t e h,t < rangeCount i j k→I t e h→Step call body (put e x (.int (i + k * t))) h R λe' h'=>I (t + 1) e' h') (fin:∀ e h,I (rangeCount i j k) e h→R (.nx e h)):Ends call (.forR x A B C body) s H R:=by
 have go:∀ n t e h,t + n=rangeCount i j k→I t e h→R (rloop (λe v=>put e x v) (λe h=>exs thePrg call body e h) i k n t e h):=by
  intro n
  induction n with
  | zero=>exact λt e h ht hI=>fin e h (ht ▸ hI)
  | succ n ih =>
   intro t e h ht hI
   obtain ⟨r,hb,hT⟩:=step t e h (ht ▸ Nat.lt_add_of_pos_right (Nat.succ_pos n)) hI
   exact hT.go (f:=λe h=>rloop (λe v=>put e x v) (λe h=>exs thePrg call body e h) i k n (t + 1) e h) hb λe' h' hI'=>ih (t + 1) e' h' (by rw [← ht,Nat.add_right_comm,Nat.add_assoc]) hI'
 refine ⟨_,?_,go (rangeCount i j k) 0 s H3 (Nat.zero_add _) h0⟩
 show (match ev thePrg call A s H with | some (.int i,h)=>(match ev thePrg call B s h with | some (.int j,h)=>(match ev thePrg call C s h with | some (.int k,h)=>if rangeOk i j k then rloop (λe v=>put e x v) (λe h=>exs thePrg call body e h) i k (rangeCount i j k) 0 s h else .bad | _=>.bad) | _=>.bad) | _=>.bad)=_
 rw [ha];dsimp only;rw [hb];dsimp only;rw [hc];exact if_pos hok
theorem floop_inv {st:En→V→Hp→Option En} {body:Ss} {sel:Hp→Option (List V)} {l:List V} (R:SRes→Prop) (I:Nat→En→Hp→Prop) (hsel:∀ t e h,I t e h→sel h=some l)
  (step:∀ t v e h,l[t]?=some v→I t e h→∃ e',st e v h=some e'∧Step call body e' h R λe' h'=>I (t + 1) e' h')
  (fin:∀ e h,I l.length e h→R (.nx e h)):∀ n t e h,t ≤ l.length→l.length < t + n→I t e h→R (floop st (λe h=>exs thePrg call body e h) sel n t e h)
 | 0,t,e,h,h1,h2,hI=>absurd h2 (Nat.not_lt.mpr h1)
 | n + 1,t,e,h,h1,h2,hI=>by
  show R (match sel h with | some l=>(match l[t]? with | some v=>(match st e v h with | some e=>(match exs thePrg call body e h with | .nx e h=>floop st (λe h=>exs thePrg call body e h) sel n (t + 1) e h | .brk e h=>.nx e h | .ret v h=>.ret v h | _=>.bad) | Option.none=>.bad) | Option.none=>.nx e h) | Option.none=>.bad)
  rw [hsel t e h hI]
  dsimp only
  cases hv:l[t]? with
  | none=>exact fin e h (Nat.le_antisymm h1 (List.getElem?_eq_none_iff.mp hv) ▸ hI)
  | some v =>
   obtain ⟨e',he',r,hb,hT⟩:=step t v e h hv hI
   dsimp only
   rw [he']
   exact hT.go hb λe' h' hI'=>floop_inv R I hsel step fin n (t + 1) e' h' (List.getElem?_eq_some_iff.mp hv).1 (by rw [Nat.add_right_comm,Nat.add_assoc];exact h2) hI'
theorem ex_forL {A:E} {body:Ss} {m:Nat} {l:List V} (R:SRes→Prop) (I:Nat→En→Hp→Prop) (ha:EV call A s H (.ref m) H1) (hl:l.length < capL) (hs:∀ t e h,I t e h→h[m]?=some (.list l)) (h0:I 0 s H1)
  (step:∀ t v e h,l[t]?=some v→I t e h→Step call body (put e x v) h R λe' h'=>I (t + 1) e' h') (fin:∀ e h,I l.length e h→R (.nx e h)):Ends call (.for x A body) s H R:=by
 refine ⟨_,?_,floop_inv (st:=λe v _=>some (put e x v)) (sel:=listAt m) R I (λt e h hi=>by unfold listAt;rw [hs t e h hi];exact if_pos hl) (λt v e h hv hi=>⟨_,rfl,step t v e h hv hi⟩) fin capL 0 s H1 (Nat.zero_le _) (by rw [Nat.zero_add];exact hl) h0⟩
 show (match ev thePrg call A s H with | some (.ref r,h)=>(match h[r]? with | some (.list _)=>floop (λe v _=>some (put e x v)) (λe h=>exs thePrg call body e h) (listAt r) capL 0 s h | some (.tuple _)=>floop (λe v _=>some (put e x v)) (λe h=>exs thePrg call body e h) (tupAt r) capL 0 s h | _=>.bad) | _=>.bad)=_
 rw [ha];dsimp only;rw [hs _ _ _ h0]
theorem ex_forTu {A:E} {body:Ss} {m:Nat} {l:List V} (R:SRes→Prop) (I:Nat→En→Hp→Prop) (ha:EV call A s H (.ref m) H1) (hl:l.length < capL) (hs:∀ t e h,I t e h→h[m]?=some (.tuple l)) (h0:I 0 s H1)
  (step:∀ t v e h,l[t]?=some v→I t e h→Step call body (put e x v) h R λe' h'=>I (t + 1) e' h') (fin:∀ e h,I l.length e h→R (.nx e h)):Ends call (.for x A body) s H R:=by
 refine ⟨_,?_,floop_inv (st:=λe v _=>some (put e x v)) (sel:=tupAt m) R I (λt e h hi=>by unfold tupAt;rw [hs t e h hi];exact if_pos hl) (λt v e h hv hi=>⟨_,rfl,step t v e h hv hi⟩) fin capL 0 s H1 (Nat.zero_le _) (by rw [Nat.zero_add];exact hl) h0⟩
 show (match ev thePrg call A s H with | some (.ref r,h)=>(match h[r]? with | some (.list _)=>floop (λe v _=>some (put e x v)) (λe h=>exs thePrg call body e h) (listAt r) capL 0 s h | some (.tuple _)=>floop (λe v _=>some (put e x v)) (λe h=>exs thePrg call body e h) (tupAt r) capL 0 s h | _=>.bad) | _=>.bad)=_
 rw [ha];dsimp only;rw [hs _ _ _ h0]
theorem ex_forT {A:E} {xs:List Nat} {body:Ss} {m:Nat} {l:List V} (R:SRes→Prop) (I:Nat→En→Hp→Prop) (ha:EV call A s H (.ref m) H1) (hl:l.length < capL) (hs:∀ t e h,I t e h→h[m]?=some (.list l)) (h0:I 0 s H1)
  (step:∀ t v e h,l[t]?=some v→I t e h→StepT call body xs v e h R λe' h'=>I (t + 1) e' h') (fin:∀ e h,I l.length e h→R (.nx e h)):Ends call (.forT xs A body) s H R:=by
 refine ⟨_,?_,floop_inv (st:=λe v h=>(tupOf v h).bind λl=>puts e xs l) (sel:=listAt m) R I (λt e h hi=>by unfold listAt;rw [hs t e h hi];exact if_pos hl) (λt v e h hv hi=>by
  obtain ⟨vs,e',r,h1,h2,hb,ht⟩:=step t v e h hv hi
  exact ⟨e',by rw [h1];exact h2,r,hb,ht⟩) fin capL 0 s H1 (Nat.zero_le _) (by rw [Nat.zero_add];exact hl) h0⟩
 show (match ev thePrg call A s H with | some (.ref r,h)=>floop (λe v h=>(tupOf v h).bind λl=>puts e xs l) (λe h=>exs thePrg call body e h) (listAt r) capL 0 s h | _=>.bad)=_
 rw [ha]
end
noncomputable def ofS:SRes→CRes
 | .nx _ h=>.val .none h
 | .ret v h=>.val v h
 | .exc c h=>.exc c h
 | _=>.bad
section
variable {n f:Nat} {D:FDef} {vs:List V} {H H':Hp} {r:SRes} {e:En} {v:V} {k:Nat}
theorem run_fn (h:theFn f=some D) (vs:List V) (H:Hp):run thePrg (n + 1) f vs H=runBody thePrg (run thePrg n) D vs H:=by
 show (match thePrg.fn f with | some D=>runBody thePrg (run thePrg n) D vs H | Option.none=>.bad)=_
 rw [show thePrg.fn f=some D from h]
theorem run_of (hD:theFn f=some D) (hl:vs.length=D.params) (hc:D.cells = []) (h:EXs (run thePrg n) D.body (vs.map some ++ List.replicate (D.size - D.params) Option.none) (H ++ [.frame]) r) :
  run thePrg (n + 1) f vs H=ofS r:=by
 rw [run_fn hD]
 unfold runBody
 rw [if_pos hl,hc]
 dsimp only [cellsIn]
 rw [h]
 induction r <;> rfl
theorem run_nx (hD:theFn f=some D) (hl:vs.length=D.params) (hc:D.cells = []) (h:EXs (run thePrg n) D.body (vs.map some ++ List.replicate (D.size - D.params) Option.none) (H ++ [.frame]) (.nx e H')) :
  run thePrg (n + 1) f vs H = .val .none H':=run_of hD hl hc h
theorem run_ret (hD:theFn f=some D) (hl:vs.length=D.params) (hc:D.cells = []) (h:EXs (run thePrg n) D.body (vs.map some ++ List.replicate (D.size - D.params) Option.none) (H ++ [.frame]) (.ret v H')) :
  run thePrg (n + 1) f vs H = .val v H':=run_of hD hl hc h
theorem run_exc (hD:theFn f=some D) (hl:vs.length=D.params) (hc:D.cells = []) (h:EXs (run thePrg n) D.body (vs.map some ++ List.replicate (D.size - D.params) Option.none) (H ++ [.frame]) (.exc k H')) :
  run thePrg (n + 1) f vs H = .exc k H':=run_of hD hl hc h
inductive Pv (c:CRes) (v:V) (H:Hp):Prop where
 | mk (H':Hp) (e:c = .val v H') (p:H <+: H')
theorem pv_ret (hD:theFn f=some D) (hl:vs.length=D.params) (hc:D.cells = []) (p:H ++ [.frame] <+: H') (h:EXs (run thePrg n) D.body (vs.map some ++ List.replicate (D.size - D.params) Option.none) (H ++ [.frame]) (.ret v H')):Pv (run thePrg (n + 1) f vs H) v H:=⟨H',run_ret hD hl hc h,pre1.trans p⟩
end
noncomputable def le32 (n:Nat):List UInt8:=[UInt8.ofNat (n % 256),UInt8.ofNat (n / 256 % 256),UInt8.ofNat (n / 65536 % 256),UInt8.ofNat (n / 16777216 % 256)]
noncomputable def le64 (n:Nat):List UInt8:=le32 (n % 4294967296) ++ le32 (n / 4294967296)
theorem ints_nat:∀ l:List Nat,ints? (l.map fun (x:Nat)=>V.int (x:Int))=some (l.map fun (x:Nat)=>(x:Int))
 | []=>rfl
 | a :: l=>congrArg (λo:Option (List Int)=>o.map (Int.ofNat a :: ·)) (ints_nat l)
theorem toBytes_nat {l:List Nat} (h:∀ x ∈ l,x < 256):(ints? (l.map fun (x:Nat)=>V.int (x:Int))).bind toBytes=some (l.map UInt8.ofNat):=by
 rw [ints_nat]
 show toBytes _=_
 unfold toBytes
 rw [if_pos (List.all_eq_true.mpr λx hx=>by
  obtain ⟨y,hy,rfl⟩:=List.mem_map.mp hx
  rw [decide_eq_true (Int.natCast_nonneg y),decide_eq_true (show (y:Int) < 256 from Int.ofNat_lt.mpr (h y hy))];rfl),List.map_map]
 rfl
theorem bop_32 {a:Nat} {H:Hp}:bop .band (.int a) (.int 4294967295) H=some (.int ((a % 4294967296:Nat):Int),H):=by rw [← and_max32];exact bop_band (b:=4294967295)
theorem bop_cat {x y:List UInt8} {H:Hp} (h:x.length + y.length < capL):bop .add (.bytes x) (.bytes y) H=some (.bytes (x ++ y),H):=if_pos ⟨rfl,h⟩
theorem bop_sub8 {a:Nat} {H:Hp}:bop .sub (.int ((a + 8:Nat):Int)) (.int 8) H=some (.int (a:Nat),H):=congrArg (λz=>some (V.int z,H)) (Int.add_sub_cancel a 8)
theorem bop_inc {a k:Nat} {H:Hp}:bop .add (.int (a:Int)) (.int (k:Nat)) H=some (.int ((a + k:Nat):Int),H):=rfl
theorem or_add {x y:Nat} (k:Nat) (h:x < 2 ^ k):x ||| y * 2 ^ k=x + y * 2 ^ k:=by
 have:=Nat.shiftLeft_add_eq_or_of_lt h y
 rw [Nat.shiftLeft_eq] at this
 rw [Nat.or_comm,← this,Nat.add_comm]
theorem u8 (x:UInt8):x.toNat < 256:=x.toNat_lt
theorem u8s (x:UInt8):x.toNat < 2 ^ 64:=Nat.lt_trans (u8 x) (by decide)
theorem u8_of (n:Nat):(UInt8.ofNat (n % 256)).toNat=n % 256:=by simp
theorem rd32_eq {n:Nat} (h:n < 4294967296):(((UInt8.ofNat (n % 256)).toNat ||| (UInt8.ofNat (n / 256 % 256)).toNat * 2 ^ 8) ||| (UInt8.ofNat (n / 65536 % 256)).toNat * 2 ^ 16) ||| (UInt8.ofNat (n / 16777216 % 256)).toNat * 2 ^ 24=n:=by
 rw [u8_of,u8_of,u8_of,u8_of,or_add 8 (by exact Nat.mod_lt _ (by decide)),or_add 16 (by lia),or_add 24 (by lia)]
 have e1:=Nat.mod_add_div n 256
 have e2:=Nat.mod_add_div (n / 256) 256
 have e3:=Nat.mod_add_div (n / 65536) 256
 rw [show n / 65536 / 256=n / 16777216 from Nat.div_div_eq_div_mul ..] at e3
 rw [show n / 256 / 256=n / 65536 from Nat.div_div_eq_div_mul ..] at e2
 rw [Nat.mod_eq_of_lt (show n / 16777216 < 256 from Nat.div_lt_of_lt_mul h)]
 generalize n / 256=a at *
 generalize n / 65536=b at *
 generalize n / 16777216=c at *
 generalize n % 256=p at *
 generalize a % 256=q at *
 generalize b % 256=r at *
 subst e3 e2 e1
 lia
theorem le32_get {pre post:List UInt8} {n:Nat} (j:Nat) {x:UInt8} (h:(le32 n)[j]?=some x):(pre ++ le32 n ++ post)[pre.length + j]?=some x:=by
 rw [List.append_assoc,List.getElem?_append_right (Nat.le_add_right _ _),Nat.add_sub_cancel_left,List.getElem?_append_left (List.getElem?_eq_some_iff.mp h).1];exact h
noncomputable def ik (u:List UInt8) (sq kd:Nat):List UInt8:=u ++ le64 (sq * 256 + kd)
theorem le64_len (n:Nat):(le64 n).length=8:=rfl
theorem ik_len (u:List UInt8) (sq kd:Nat):(ik u sq kd).length=u.length + 8:=List.length_append
theorem ik_cap {u:List UInt8} {sq kd:Nat} (hu:u.length < 1000):(ik u sq kd).length < capL:=by rw [ik_len];exact Nat.lt_trans (Nat.add_lt_add_right hu 8) (by decide)
noncomputable def cmpB (a b:List UInt8):Int:=if bltB a b then -1 else if bltB b a then 1 else 0
noncomputable def cmpN (s t:Nat):Int:=if s > t then -1 else if s < t then 1 else 0
noncomputable def cmpK (u:List UInt8) (s:Nat) (v:List UInt8) (t:Nat):Int:=if cmpB u v ≠ 0 then cmpB u v else cmpN s t
noncomputable def OrdAt (H:Hp) (r:Nat):Prop:=∃ r2,H[r]?=some (.inst 13 [(12,.ref r2)])∧H[r2]?=some (.inst 12 [])
theorem OrdAt.pre {H H':Hp} {r:Nat} (p:H <+: H') (h:OrdAt H r):OrdAt H' r:=let ⟨r2,a,b⟩:=h;⟨r2,get_pre p a,get_pre p b⟩
theorem OrdAt.app {H G:Hp} {r:Nat} (h:OrdAt H r):OrdAt (H ++ G) r:=h.pre pre1
section
variable {n k sq kd sq' kd':Nat} {u u':List UInt8} {H:Hp}
theorem c_put32 (hk:k < 4294967296):Pv (run thePrg (n + 1) 9 [.int k] H) (.bytes (le32 k)) H :=
 pv_ret (D:=⟨1,1,b_put_fixed32,[]⟩) rfl rfl rfl pre1 (exs_no (tv_rng rfl (Nat.le_of_lt_succ hk)) (exs_val (ev_bytesOf_l (ev_list (evs_cons (ev_bin (ev_var rfl) ev_int bop_255)
  (evs_cons (ev_bin (ev_bin (ev_var rfl) ev_int (bop_shr 8 (by decide))) ev_int bop_255) (evs_cons (ev_bin (ev_bin (ev_var rfl) ev_int (bop_shr 16 (by decide))) ev_int bop_255) (evs_cons (ev_bin (ev_var rfl) ev_int (bop_shr 24 (by decide))) evs_nil)))))
  get_end (Nat.le_of_ble_eq_true rfl) ((toBytes_nat (l:=[k % 256,k / 2 ^ 8 % 256,k / 2 ^ 16 % 256,k / 2 ^ 24]) (List.forall_mem_cons.mpr ⟨Nat.mod_lt _ (by decide),List.forall_mem_cons.mpr ⟨Nat.mod_lt _ (by decide),List.forall_mem_cons.mpr ⟨Nat.mod_lt _ (by decide),List.forall_mem_cons.mpr ⟨Nat.div_lt_of_lt_mul hk,λ_ h=>nomatch h⟩⟩⟩⟩)).trans
   (congrArg (λz=>some [UInt8.ofNat (k % 256),UInt8.ofNat (k / 256 % 256),UInt8.ofNat (k / 65536 % 256),UInt8.ofNat z]) (Nat.mod_eq_of_lt (Nat.div_lt_of_lt_mul hk)).symm)))))
theorem c_put64 (hk:k < 18446744073709551616):Pv (run thePrg (n + 2) 10 [.int k] H) (.bytes (le64 k)) H:=by
 obtain ⟨H1,e1,p1⟩:=c_put32 (n:=n) (k:=k % 4294967296) (H:=H ++ [.frame]) (Nat.mod_lt _ (by decide))
 obtain ⟨H2,e2,p2⟩:=c_put32 (n:=n) (k:=k / 4294967296) (H:=H1) (Nat.div_lt_of_lt_mul hk)
 exact pv_ret (D:=⟨1,1,b_put_fixed64,[]⟩) rfl rfl rfl (p1.trans p2) (exs_no (tv_rng rfl (Nat.le_of_lt_succ hk)) (exs_val (ev_bin (ev_call (evs_cons (ev_bin (ev_var rfl) ev_gint bop_32) evs_nil) e1) (ev_call (evs_cons (ev_bin (ev_var rfl) ev_int (bop_shr 32 (by decide))) evs_nil) e2) (bop_cat (Nat.le_of_ble_eq_true rfl)))))
theorem tv_read {i m x y:Nat} {b:List UInt8} {s:En} {call:CallF} (hb:look s x=some (.bytes b)) (hi:look s y=some (.int i)) (hc:b.length < capL) (h:i + m ≤ b.length):TV call (.or (.cmp .lt (.var y) (.int 0)) (.cmp .gt (.bin .add (.var y) (.int m)) (.len (.var x)))) s H false H :=
 tv_b (ev_or_f (ev_cmp (ev_var hi) ev_int (lt_no (Int.natCast_nonneg i))) rfl (ev_cmp (ev_bin (ev_var hi) ev_int bop_inc) (ev_len (ev_var hb) (lenB hc)) (gt_no (Int.ofNat_le.mpr h))))
theorem c_read32 {b pre post:List UInt8} {i:Nat} (hk:k < 4294967296) (hb:b=pre ++ le32 k ++ post) (hi:i=pre.length) (hc:b.length < capL):Pv (run thePrg (n + 1) 11 [.bytes b,.int i] H) (.int k) H:=by
 subst hi
 have g:∀ j {x:UInt8},(le32 k)[j]?=some x→∀ {h:Hp},getIdx (.bytes b) (.int ((pre.length + j:Nat):Int)) h=some (.int x.toNat):=λj x q h=>getB (hb ▸ le32_get j q) hc
 have h4:pre.length + 4 ≤ b.length:=by rw [hb,List.length_append,List.length_append];exact Nat.le_add_right _ _
 have sh:∀ (j m:Nat),m < 64→∀ {x:UInt8},(le32 k)[j]?=some x→EV (run thePrg n) (.bin .shl (.idx (.var 0) (.bin .add (.var 1) (.int (j:Nat)))) (.int (m:Nat))) [some (.bytes b),some (.int pre.length)] (H ++ [.frame]) (.int ((x.toNat * 2 ^ m:Nat):Int)) (H ++ [.frame]) :=
  λj m hm x q=>ev_bin (ev_idx (ev_var rfl) (ev_bin (ev_var rfl) ev_int bop_inc) (g j q)) ev_int (bop_shl m (u8s x) hm)
 have e:=rd32_eq hk
 exact pv_ret (D:=⟨2,2,b_read_fixed32,[]⟩) rfl rfl rfl (List.prefix_refl _) (exs_no (tv_read (m:=4) rfl rfl hc h4) (exs_val (v:=.int k) (ev_bin (ev_bin (ev_bin (ev_idx (ev_var rfl) (ev_var rfl) (g 0 rfl)) (sh 1 8 (by decide) rfl) bop_bor) (sh 2 16 (by decide) rfl) bop_bor) (sh 3 24 (by decide) rfl) (by rw [bop_bor,e]))))
theorem c_read64 {pre:List UInt8} (hk:k < 18446744073709551616) (hc:(pre ++ le64 k).length < capL):Pv (run thePrg (n + 2) 12 [.bytes (pre ++ le64 k),.int pre.length] H) (.int k) H:=by
 obtain ⟨H1,e1,p1⟩:=c_read32 (n:=n) (H:=H ++ [.frame]) (b:=pre ++ le64 k) (k:=k % 4294967296) (pre:=pre) (post:=le32 (k / 4294967296)) (Nat.mod_lt _ (by decide)) (List.append_assoc ..).symm rfl hc
 obtain ⟨H2,e2,p2⟩:=c_read32 (n:=n) (H:=H1) (b:=pre ++ le64 k) (i:=pre.length + 4) (k:=k / 4294967296) (pre:=pre ++ le32 (k % 4294967296)) (post:=[]) (Nat.div_lt_of_lt_mul hk) (by rw [List.append_nil,List.append_assoc];rfl) (List.length_append (as:=pre) (bs:=le32 (k % 4294967296))).symm hc
 refine pv_ret (D:=⟨2,2,b_read_fixed64,[]⟩) rfl rfl rfl (p1.trans p2) (exs_no (tv_read (m:=8) rfl rfl hc (Nat.le_of_eq (List.length_append (as:=pre) (bs:=le64 k)).symm)) (exs_val (v:=.int k) (ev_bin (ev_call (evs_cons (ev_var rfl) (evs_cons (ev_var rfl) evs_nil)) e1)
  (ev_bin (ev_call (evs_cons (ev_var rfl) (evs_cons (ev_bin (ev_var rfl) ev_int bop_inc) evs_nil)) e2) ev_int (bop_shl 32 (Nat.lt_trans (Nat.div_lt_of_lt_mul (k:=4294967296) hk) (by decide)) (by decide))) ?_)))
 rw [bop_bor,or_add 32 (Nat.mod_lt _ (by decide))]
 exact congrArg (λz:Nat=>some (V.int (z:Int),H2)) (by rw [Nat.mul_comm];exact Nat.mod_add_div k 4294967296)
theorem c_pack_tag (hs:sq < 72057594037927936) (hk:kd=0∨kd=1):Pv (run thePrg (n + 1) 13 [.int sq,.int kd] H) (.int ((sq * 256 + kd:Nat):Int)) H:=by
 have t:TV (run thePrg n) (.and (.cmp .ne (.var 1) (.gint 9 0)) (.cmp .ne (.var 1) (.gint 10 1))) [some (.int sq),some (.int kd)] (H ++ [.frame]) false (H ++ [.frame]):=by
  rcases hk with rfl | rfl
  ·exact tv_b (ev_and_f (ev_cmp (ev_var rfl) ev_gint rfl) rfl)
  ·exact tv_b (ev_and_t (ev_cmp (ev_var rfl) ev_gint rfl) rfl (ev_cmp (ev_var rfl) ev_gint rfl))
 have hk:kd < 2 ^ 8:=by rcases hk with rfl | rfl <;> decide
 refine pv_ret (D:=⟨2,2,b_pack_tag,[]⟩) rfl rfl rfl (List.prefix_refl _) (exs_no (tv_rng rfl (Nat.le_of_lt_succ hs)) (exs_no t (exs_val (v:=.int ((sq * 256 + kd:Nat):Int)) (ev_bin (ev_bin (ev_var rfl) ev_int (bop_shl 8 (Nat.lt_trans hs (by decide)) (by decide))) (ev_var rfl) ?_))))
 rw [bop_bor,Nat.or_comm,or_add 8 hk,Nat.add_comm]
theorem c_make_ikey (hu:u.length < 1000) (hs:sq < 72057594037927936) (hk:kd=0∨kd=1):Pv (run thePrg (n + 3) 14 [.bytes u,.int sq,.int kd] H) (.bytes (ik u sq kd)) H:=by
 obtain ⟨H1,e1,p1⟩:=c_pack_tag (n:=n + 1) (H:=H ++ [.frame]) hs hk
 obtain ⟨H2,e2,p2⟩:=c_put64 (n:=n) (H:=H1) (k:=sq * 256 + kd) (by lia)
 exact pv_ret (D:=⟨3,3,b_make_ikey,[]⟩) rfl rfl rfl (p1.trans p2) (exs_val (ev_bin (ev_bytesOf_b (ev_var rfl)) (ev_call (evs_cons (ev_call (evs_cons (ev_var rfl) (evs_cons (ev_var rfl) evs_nil)) e1) evs_nil) e2) (bop_cat (by rw [le64_len];exact Nat.lt_trans (Nat.add_lt_add_right hu 8) (by decide)))))
theorem tv_short {x:Nat} {s:En} {call:CallF} (hu:u.length < 1000) (hx:look s x=some (.bytes (ik u sq kd))):TV call (.cmp .lt (.len (.var x)) (.gint 11 8)) s H false H :=
 tv_cmp (ev_len (ev_var hx) (lenB (ik_cap hu))) ev_gint (lt_no (Int.ofNat_le.mpr (by rw [ik_len];exact Nat.le_add_left 8 _)))
theorem ev_body {x:Nat} {s:En} {call:CallF} (hu:u.length < 1000) (hx:look s x=some (.bytes (ik u sq kd))):EV call (.bin .sub (.len (.var x)) (.gint 11 8)) s H (.int (u.length:Nat)) H :=
 ev_bin (ev_len (ev_var hx) (lenB (ik_cap hu))) ev_gint (by rw [ik_len];exact bop_sub8)
theorem c_user_of (hu:u.length < 1000):Pv (run thePrg (n + 1) 16 [.bytes (ik u sq kd)] H) (.bytes u) H:=by
 have h:=ev_slice_b (call:=run thePrg n) (s:=[some (.bytes (ik u sq kd))]) (H:=H ++ [.frame]) (ev_var (x:=0) rfl) (ev_body (sq:=sq) (kd:=kd) (x:=0) hu rfl) (Int.natCast_nonneg _) (Int.ofNat_lt.mpr (Nat.lt_trans hu (by decide))) (ik_cap hu)
 rw [show (ik u sq kd).take (u.length:Int).toNat=u from List.take_left] at h
 exact pv_ret (D:=⟨1,1,b_user_of,[]⟩) rfl rfl rfl (List.prefix_refl _) (exs_no (tv_short hu rfl) (exs_val (ev_bytesOf_b h)))
theorem c_tag_of (hu:u.length < 1000) (hs:sq < 72057594037927936) (hk:kd < 256):Pv (run thePrg (n + 3) 17 [.bytes (ik u sq kd)] H) (.int ((sq * 256 + kd:Nat):Int)) H:=by
 obtain ⟨H1,e1,p1⟩:=c_read64 (n:=n) (H:=H ++ [.frame]) (pre:=u) (k:=sq * 256 + kd) (by lia) (ik_cap hu)
 exact pv_ret (D:=⟨1,1,b_tag_of,[]⟩) rfl rfl rfl p1 (exs_no (tv_short hu rfl) (exs_val (ev_call (evs_cons (ev_var rfl) (evs_cons (ev_body hu rfl) evs_nil)) e1)))
theorem c_cmpB {self:V} {a b:List UInt8}:Pv (run thePrg (n + 1) 18 [self,.bytes a,.bytes b] H) (.int (cmpB a b)) H:=by
 refine pv_ret (D:=⟨3,3,b_Order_compare,[]⟩) rfl rfl rfl (List.prefix_refl _) ?_
 have t:∀ {op:Cop} {c},cop op (.bytes a) (.bytes b) (H ++ [.frame])=some c→TV (run thePrg n) (.cmp op (.var 1) (.var 2)) [some self,some (.bytes a),some (.bytes b)] (H ++ [.frame]) c (H ++ [.frame]):=λq=>tv_cmp (ev_var rfl) (ev_var rfl) q
 unfold cmpB
 cases h1:bltB a b with
 | true=>exact exs_yes (t (congrArg some h1)) (exs_val ev_neg)
 | false =>
  refine exs_no (t (congrArg some h1)) ?_
  cases h2:bltB b a with
  | true=>exact exs_yes (t (congrArg some h2)) (exs_val ev_int)
  | false=>exact exs_no (t (congrArg some h2)) (exs_val ev_int)
theorem c_cmpK {r:Nat} (hO:OrdAt H r) (hu:u.length < 1000) (hu':u'.length < 1000) (hs:sq < 72057594037927936) (hs':sq' < 72057594037927936) (hk:kd < 256) (hk':kd' < 256) :
  Pv (run thePrg (n + 4) 20 [.ref r,.bytes (ik u sq kd),.bytes (ik u' sq' kd')] H) (.int (cmpK u (sq * 256 + kd) u' (sq' * 256 + kd'))) H:=by
 obtain ⟨r2,h1,h2⟩:=hO
 obtain ⟨H1,e1,p1⟩:=c_user_of (n:=n + 2) (H:=H ++ [.frame]) (u:=u) (sq:=sq) (kd:=kd) hu
 obtain ⟨H2,e2,p2⟩:=c_user_of (n:=n + 2) (H:=H1) (u:=u') (sq:=sq') (kd:=kd') hu'
 obtain ⟨H3,e3,p3⟩:=c_cmpB (n:=n + 2) (H:=H2) (self:=.ref r2) (a:=u) (b:=u')
 obtain ⟨H4,e4,p4⟩:=c_tag_of (n:=n) (H:=H3) hu hs hk
 obtain ⟨H5,e5,p5⟩:=c_tag_of (n:=n) (H:=H4) hu' hs' hk'
 have p3:=(p1.trans p2).trans p3
 have st:=ex_assign (x:=3) (ev_meth (n:=13) (call:=run thePrg (n + 3)) (s:=[some (.ref r),some (.bytes (ik u sq kd)),some (.bytes (ik u' sq' kd')),none,none,none]) (ev_av (x:=0) (n:=12) rfl (get_app (G:=[.frame]) h1) rfl rfl) (meth_at (get_app h2) rfl rfl)
  (evs_cons (ev_call (evs_cons (ev_var (x:=1) rfl) evs_nil) e1) (evs_cons (ev_call (evs_cons (ev_var (x:=2) rfl) evs_nil) e2) evs_nil)) e3)
 unfold cmpK
 by_cases hc:cmpB u u'=0
 ·rw [if_neg (λq=>q hc)]
  have rest:=fun (v:Int) q=>pv_ret (v:=.int v) (n:=n + 3) (f:=20) (vs:=[.ref r,.bytes (ik u sq kd),.bytes (ik u' sq' kd')]) (D:=⟨3,6,b_InternalOrder_compare,[]⟩) rfl rfl rfl ((p3.trans p4).trans p5)
   (exs_nx st (exs_no (tv_cmp (ev_var rfl) ev_int (ne_no hc)) (exs_nx (ex_assign (ev_call (evs_cons (ev_var rfl) evs_nil) e4)) (exs_nx (ex_assign (ev_call (evs_cons (ev_var rfl) evs_nil) e5)) q))))
  unfold cmpN
  by_cases g1:sq * 256 + kd > sq' * 256 + kd'
  ·rw [if_pos g1]
   exact rest _ (exs_yes (tv_cmp (ev_var rfl) (ev_var rfl) (gt_yes (Int.ofNat_lt.mpr g1))) (exs_val ev_neg))
  ·rw [if_neg g1]
   have g1:=Int.ofNat_le.mpr (Nat.not_lt.mp g1)
   by_cases g2:sq * 256 + kd < sq' * 256 + kd'
   ·rw [if_pos g2]
    exact rest _ (exs_no (tv_cmp (ev_var rfl) (ev_var rfl) (gt_no g1)) (exs_yes (tv_cmp (ev_var rfl) (ev_var rfl) (lt_yes (Int.ofNat_lt.mpr g2))) (exs_val ev_int)))
   ·rw [if_neg g2]
    exact rest _ (exs_no (tv_cmp (ev_var rfl) (ev_var rfl) (gt_no g1)) (exs_no (tv_cmp (ev_var rfl) (ev_var rfl) (lt_no (Int.ofNat_le.mpr (Nat.not_lt.mp g2)))) (exs_val ev_int)))
 ·rw [if_pos hc]
  exact pv_ret (n:=n + 3) (f:=20) (D:=⟨3,6,b_InternalOrder_compare,[]⟩) rfl rfl rfl p3 (exs_nx st (exs_yes (tv_cmp (ev_var rfl) ev_int (ne_yes hc)) (exs_val (ev_var rfl))))
theorem c_split (hu:u.length < 1000) (hs:sq < 72057594037927936) (hk:kd=0∨kd=1):Ex2 λr H'=>And3 (run thePrg (n + 4) 15 [.bytes (ik u sq kd)] H = .val (.ref r) H') (H <+: H') (H'[r]?=some (.tuple [.bytes u,.int sq,.int kd])):=by
 have hk2:kd < 256:=by rcases hk with rfl | rfl <;> decide
 have hk3:kd ≤ 1:=by rcases hk with rfl | rfl <;> decide
 obtain ⟨H1,e1,p1⟩:=c_user_of (n:=n + 2) (H:=H ++ [.frame]) (u:=u) (sq:=sq) (kd:=kd) hu
 obtain ⟨H2,e2,p2⟩:=c_tag_of (n:=n) (H:=H1) hu hs hk2
 refine ⟨H2.length,H2 ++ [.tuple [.bytes u,.int sq,.int kd]],run_ret (D:=⟨1,4,b_split_ikey,[]⟩) rfl rfl rfl (exs_nx (ex_assign (ev_call (evs_cons (ev_var rfl) evs_nil) e1)) (exs_nx (ex_assign (ev_call (evs_cons (ev_var rfl) evs_nil) e2))
  (exs_nx (ex_assign (v:=.int kd) (ev_bin (ev_var rfl) ev_int (by rw [bop_255];exact congrArg (λz:Nat=>some (V.int (z:Int),H2)) (by rw [Nat.mul_comm,Nat.mul_add_mod];exact Nat.mod_eq_of_lt hk2))))
   (exs_no (tv_cmp (ev_var rfl) ev_gint (gt_no (Int.ofNat_le.mpr hk3))) (exs_val (ev_tuple (evs_cons (ev_var rfl) (evs_cons (ev_bin (ev_var rfl) ev_int ?_) (evs_cons (ev_var rfl) evs_nil))))))))),(pre1.trans (p1.trans p2)).trans pre1,get_end⟩
 refine (bop_shr 8 (by decide)).trans (congrArg (λz:Nat=>some (V.int (z:Int),H2)) ?_)
 rw [Nat.mul_comm,show (2 ^ 8:Nat)=256 from rfl,Nat.mul_add_div (by decide),Nat.div_eq_of_lt hk2,Nat.add_zero]
end
noncomputable def markO (num sq:Int) (live:Bool):O:=.inst 9 [(0,.int num),(1,.int sq),(2,.bool live)]
noncomputable def mlO (l:Nat) (made:Int):O:=.inst 10 [(3,.ref l),(4,.int made)]
theorem ex_sm {call:CallF} {s:En} {H G G':Hp} {x n c:Nat} {a:E} {v:V} {fs:List (Nat × V)} (ha:EV call a s (H ++ .inst c fs :: G) v (H ++ .inst c fs :: G')) (hx:look s x=some (.ref H.length)) (hf:theFld c n=true) (hl:fs.length < 100) :
  EX call (.setattr (.var x) n a) s (H ++ .inst c fs :: G) (.nx s (H ++ .inst c (setF n v fs) :: G')):=by
 have:=ex_sv ha hx get_mid hf hl
 rwa [set_mid] at this
theorem mk_eq {num sq num' sq':Int} {live live':Bool} (h:some (markO num sq live)=some (markO num' sq' live')):num=num'∧sq=sq'∧live=live':=by
 have:=Option.some.inj h
 unfold markO at this
 injection this with _ h
 injection h with h1 h
 injection h with h2 h
 injection h with h3 _
 exact ⟨by injection h1 with _ h;injection h,by injection h2 with _ h;injection h,by injection h3 with _ h;injection h⟩
section
variable {n r l m mq i:Nat} {made sq num nq:Int} {H:Hp} {ms:List V} {nums:List Int} {live:Bool}
theorem c_markInit:run thePrg (n + 1) 0 [.ref H.length,.int num,.int sq] (H ++ [.inst 9 []]) = .val .none (H ++ [markO num sq true,.frame]):=by
 have e:H ++ [O.inst 9 []] ++ [O.frame]=H ++ .inst 9 [] :: [.frame]:=List.append_assoc ..
 refine run_nx (D:=⟨3,3,b_SnapMark_init,[]⟩) (e:=[some (.ref H.length),some (.int num),some (.int sq)]) rfl rfl rfl ?_
 rw [e]
 exact exs_nx (ex_sm (ev_var rfl) rfl rfl (by decide)) (exs_nx (ex_sm (ev_var rfl) rfl rfl (Nat.le_of_ble_eq_true rfl)) (exs_nx (ex_sm ev_bool rfl rfl (Nat.le_of_ble_eq_true rfl)) exs_nil))
noncomputable def staleT:E:=.and (.attr (.var 0) 3) (.cmp .gt (.attr (.idx (.attr (.var 0) 3) (.neg 1)) 1) (.var 1))
theorem tv_stale0 {call:CallF} {s2:Option V} (hr:H[r]?=some (mlO l made)) (hl:H[l]?=some (.list [])):TV call staleT [some (.ref r),some (.int sq),s2] H false H :=
 tv_of (ev_and_f (ev_av rfl hr rfl rfl) (truth_list hl (by decide))) (truth_list hl (by decide))
theorem tv_stale {call:CallF} {s2:Option V} {c:Bool} (hr:H[r]?=some (mlO l made)) (hl:H[l]?=some (.list (ms ++ [.ref m]))) (hc:(ms ++ [V.ref m]).length < capL) (hm:H[m]?=some (markO num nq live)) (h:decide (sq < nq)=c):TV call staleT [some (.ref r),some (.int sq),s2] H c H :=
 tv_b (ev_and_t (ev_av rfl hr rfl rfl) (by rw [truth_list hl hc];cases ms <;> rfl) (ev_cmp (ev_attr (ev_idx (ev_av rfl hr rfl rfl) ev_neg (idxN (i:=ms.length) hl hc (by decide) (by rw [List.length_append];exact Int.neg_add_cancel_left 1 ms.length |> λh=>by rw [← h];show -1 + ((ms.length:Int) + 1)=_;lia) List.getElem?_concat_length)) (attr_of hm rfl rfl)) (ev_var rfl) (congrArg some h)))
theorem c_mlAdd_stale (hr:H[r]?=some (mlO l made)) (hl:H[l]?=some (.list (ms ++ [.ref m]))) (hc:(ms ++ [V.ref m]).length < capL) (hm:H[m]?=some (markO num nq live)) (h:sq < nq):run thePrg (n + 1) 3 [.ref r,.int sq] H = .exc 8 (H ++ [.frame]) :=
 run_exc (D:=⟨2,3,b_MarkList_add,[]⟩) rfl rfl rfl (exs_exc (ex_ite_t (tv_stale (get_app hr) (get_app hl) hc (get_app hm) (decide_eq_true h)) (exs_exc ex_raise)))
theorem c_mlAdd (hr:H[r]?=some (mlO l made)) (hl:H[l]?=some (.list ms)) (hc:ms.length < capL) (h:∀ {call:CallF},TV call staleT [some (.ref r),some (.int sq),none] (H ++ [.frame]) false (H ++ [.frame])) :
  run thePrg (n + 2) 3 [.ref r,.int sq] H = .val (.ref (H.length + 1)) (((H.set r (mlO l (made + 1))).set l (.list (ms ++ [.ref (H.length + 1)]))) ++ [.frame,markO (made + 1) sq true,.frame]):=by
 have hne:l ≠ r:=λq=>by rw [q,hr] at hl;cases hl
 have e1:(H ++ [O.frame]).set r (mlO l (made + 1))=H.set r (mlO l (made + 1)) ++ [.frame]:=set_app (lt_of_get hr)
 have el:(H.set r (mlO l (made + 1)) ++ [O.frame]).length=H.length + 1:=by rw [len1,List.length_set]
 have e2:(H.set r (mlO l (made + 1)) ++ [O.frame] ++ [markO (made + 1) sq true,.frame]).set l (.list (ms ++ [.ref (H.length + 1)]))=((H.set r (mlO l (made + 1))).set l (.list (ms ++ [.ref (H.length + 1)]))) ++ [.frame,markO (made + 1) sq true,.frame]:=by
  rw [List.append_assoc];exact set_app (by rw [List.length_set];exact lt_of_get hl)
 have o1:(H.set r (mlO l (made + 1)))[r]?=some (mlO l (made + 1)):=get_set_eq hr
 have ol:=get_set_ne (o':=mlO l (made + 1)) hl hne
 have n1:=ev_new (c:=9) (f:=0) (call:=run thePrg (n + 1)) (s:=[some (.ref r),some (.int sq),none]) (as:=.cons (.attr (.var 0) 4) (.cons (.var 1) .nil)) rfl (evs_cons (ev_av rfl (get_app (G:=[.frame]) o1) rfl rfl) (evs_cons (ev_var rfl) evs_nil)) c_markInit
 rw [el] at n1
 rw [← e2]
 exact run_ret (D:=⟨2,3,b_MarkList_add,[]⟩) rfl rfl rfl (exs_no h (exs_nx (ex_augattr (v:=.int (made + 1)) (ev_var rfl) (attr_of (get_app hr) rfl rfl) ev_int rfl (by rw [setAttr_of (get_app hr) rfl (Nat.le_of_ble_eq_true rfl)];exact congrArg some e1)) (exs_nx (ex_assign n1)
  (exs_nx (ex_expr (ev_append (ev_av rfl (get_app (get_app o1)) rfl rfl) (isL_of (get_app (get_app ol))) (ev_var rfl) (get_app (get_app ol)) hc) rfl) (exs_val (ev_var rfl))))))
structure MarksAt (H:Hp) (ms:List V) (nums:List Int):Prop where
 len:ms.length=nums.length
 ob:∀ (i:Nat) (x:Int),nums[i]?=some x→Ex3 λm sq live=>ms[i]?=some (.ref m)∧H[m]?=some (markO x sq live)
 rise:∀ (i j:Nat) (x y:Int),nums[i]?=some x→nums[j]?=some y→i < j→x < y
theorem MarksAt.app {G:Hp} (h:MarksAt H ms nums):MarksAt (H ++ G) ms nums:=⟨h.len,λi x hx=>let ⟨m,s,lv,a,b⟩:=h.ob i x hx;⟨m,s,lv,a,get_app b⟩,h.rise⟩
inductive PlI (H:Hp) (r mq:Nat) (ms:List V) (nums:List Int) (nq:Int) (k:Nat) (e:En) (h:Hp):Prop where
 | mk (low high:Nat) (mid:Option V) (he:e = [some (.ref r),some (.ref mq),some (.int low),some (.int high),mid,none]) (hh:h=H) (h1:low ≤ high) (h2:high ≤ ms.length) (hk:k=high - low)
  (lo:∀ i x,nums[i]?=some x→i < low→x < nq) (hi:∀ i x,nums[i]?=some x→high ≤ i→nq ≤ x)
inductive PlE (H:Hp) (r mq:Nat) (ms:List V) (nums:List Int) (nq:Int) (q:SRes):Prop where
 | mk (low:Nat) (mid:Option V) (e:q = .nx [some (.ref r),some (.ref mq),some (.int low),some (.int low),mid,none] H) (h:low ≤ ms.length) (a:∀ i x,nums[i]?=some x→(i < low ↔ x < nq))
noncomputable def placeW:S:=.while (.cmp .lt (.var 2) (.var 3)) (.cons (.assign 4 (.bin .fdiv (.bin .add (.var 2) (.var 3)) (.int 2))) (.cons (.ite (.cmp .lt (.attr (.idx (.attr (.var 0) 3) (.var 4)) 0) (.attr (.var 1) 0)) (.cons (.assign 2 (.bin .add (.var 4) (.int 1))) .nil) (.cons (.assign 3 (.var 4)) .nil)) .nil))
theorem place_loop {call:CallF} (hr:H[r]?=some (mlO l made)) (hl:H[l]?=some (.list ms)) (hc:ms.length < capL) (hm:MarksAt H ms nums) (hq:H[mq]?=some (markO nq sq live)) :
  Ends call placeW [some (.ref r),some (.ref mq),some (.int 0),some (.int ms.length),none,none] H (PlE H r mq ms nums nq):=by
 refine ex_while _ (PlI H r mq ms nums nq) hc ⟨0,ms.length,none,rfl,rfl,Nat.zero_le _,Nat.le_refl _,rfl,λi x _ h=>absurd h (Nat.not_lt_zero i),λi x hx h=>absurd (List.getElem?_eq_some_iff.mp hx).1 (by rw [← hm.len];exact Nat.not_lt.mpr h)⟩ ?_
 rintro k e h ⟨low,high,mid,rfl,rfl,h1,h2,rfl,h3,h4⟩
 by_cases hlt:low < high
 ·have g1:low ≤ (low + high) / 2:=by lia
  have g2:(low + high) / 2 < high:=by lia
  have e2:EX call (.assign 4 (.bin .fdiv (.bin .add (.var 2) (.var 3)) (.int 2))) [some (.ref r),some (.ref mq),some (.int low),some (.int high),mid,none] h (.nx [some (.ref r),some (.ref mq),some (.int low),some (.int high),some (.int ((low + high) / 2:Nat)),none] h) :=
   ex_assign (ev_bin (ev_bin (ev_var rfl) (ev_var rfl) (rfl:bop .add (.int (low:Int)) (.int (high:Int)) h=some (.int ((low + high:Nat):Int),h))) ev_int (bop_fdiv (b:=2) (by decide) (by decide)))
  generalize (low + high) / 2=md at g1 g2 e2
  have hmid:md < nums.length:=hm.len ▸ Nat.lt_of_lt_of_le g2 h2
  have hx:=List.getElem?_eq_getElem hmid
  generalize nums[md]=x at hx
  obtain ⟨m,sqm,lm,hmm,hmo⟩:=hm.ob md x hx
  have t:∀ {c},decide (x < nq)=c→TV call (.cmp .lt (.attr (.idx (.attr (.var 0) 3) (.var 4)) 0) (.attr (.var 1) 0)) [some (.ref r),some (.ref mq),some (.int low),some (.int high),some (.int md),none] h c h:=λq =>
   tv_cmp (ev_attr (ev_idx (ev_av rfl hr rfl rfl) (ev_var rfl) (idxL hl hc rfl hmm)) (attr_of hmo rfl rfl)) (ev_av rfl hq rfl rfl) (congrArg some q)
  refine .inr ⟨h,tv_cmp (ev_var rfl) (ev_var rfl) (lt_yes (Int.ofNat_lt.mpr hlt)),?_⟩
  by_cases hn:x < nq
  ·refine ⟨_,exs_nx e2 (exs_nx (ex_ite_t (t (decide_eq_true hn)) (exs_nx (ex_assign (v:=.int (md + 1:Nat)) (ev_bin (ev_var rfl) ev_int rfl)) exs_nil)) exs_nil),high - (md + 1),Nat.sub_lt_sub_left hlt (Nat.lt_succ_of_le g1),md + 1,high,_,rfl,rfl,g2,h2,rfl,λi y hy hi=>?_,h4⟩
   rcases Nat.lt_or_ge i md with q | q
   ·exact Int.lt_trans (hm.rise _ _ _ _ hy hx q) hn
   ·obtain rfl:=Nat.le_antisymm (Nat.le_of_lt_succ hi) q
    cases hx.symm.trans hy;exact hn
  ·refine ⟨_,exs_nx e2 (exs_nx (ex_ite_f (t (decide_eq_false hn)) (exs_nx (ex_assign (ev_var rfl)) exs_nil)) exs_nil),md - low,Nat.sub_lt_sub_right g1 g2,low,md,_,rfl,rfl,g1,Nat.le_trans (Nat.le_of_lt g2) h2,rfl,h3,λi y hy hi=>?_⟩
   rcases Nat.lt_or_ge md i with q | q
   ·exact Int.le_trans (Int.not_lt.mp hn) (Int.le_of_lt (hm.rise _ _ _ _ hx hy q))
   ·obtain rfl:=Nat.le_antisymm hi q
    cases hx.symm.trans hy;exact Int.not_lt.mp hn
 ·obtain rfl:=Nat.le_antisymm h1 (Nat.not_lt.mp hlt)
  exact .inl ⟨h,tv_cmp (ev_var rfl) (ev_var rfl) (lt_no (Int.le_refl _)),low,mid,rfl,h2,λi x hx=>⟨h3 i x hx,λq=>Nat.not_le.mp λz=>absurd q (Int.not_lt.mpr (h4 i x hx z))⟩⟩
theorem place_pre (hr:H[r]?=some (mlO l made)) (hl:H[l]?=some (.list ms)) (hc:ms.length < capL) (hm:MarksAt H ms nums) (hq:H[mq]?=some (markO nq sq live)) {v:V}
  (k:∀ (low:Nat) (mid:Option V),low ≤ ms.length→(∀ i x,nums[i]?=some x→(i < low ↔ x < nq))→EXs (run thePrg n) (.cons (.ite (.or (.cmp .eq (.var 2) (.len (.attr (.var 0) 3))) (.not (.attr (.var 1) 2))) (.cons (.ret (.neg 1)) .nil) .nil) (.cons (.assign 5 (.idx (.attr (.var 0) 3) (.var 2))) (.cons (.ite (.or (.cmp .ne (.attr (.var 5) 0) (.attr (.var 1) 0)) (.cmp .ne (.attr (.var 5) 1) (.attr (.var 1) 1))) (.cons (.ret (.neg 1)) .nil) .nil) (.cons (.ret (.var 2)) .nil))))
   [some (.ref r),some (.ref mq),some (.int low),some (.int low),mid,none] (H ++ [.frame]) (.ret v (H ++ [.frame]))):run thePrg (n + 1) 4 [.ref r,.ref mq] H = .val v (H ++ [.frame]):=by
 obtain ⟨_,e,low,mid,rfl,h1,h2⟩:=place_loop (call:=run thePrg n) (get_app (G:=[.frame]) hr) (get_app hl) hc hm.app (get_app hq)
 exact run_ret (D:=⟨2,6,b_MarkList_place,[]⟩) rfl rfl rfl (exs_nx (ex_assign ev_int) (exs_nx (ex_assign (ev_len (ev_av rfl (get_app hr) rfl rfl) (lenL (get_app hl) hc))) (exs_nx e (k low mid h1 h2))))
theorem c_place_dead (hr:H[r]?=some (mlO l made)) (hl:H[l]?=some (.list ms)) (hc:ms.length < capL) (hm:MarksAt H ms nums) (hq:H[mq]?=some (markO nq sq false)):run thePrg (n + 1) 4 [.ref r,.ref mq] H = .val (.int (-1)) (H ++ [.frame]) :=
 place_pre hr hl hc hm hq λlow mid h1 h2=>by
  have ln:=ev_len (call:=run thePrg n) (ev_av (x:=0) (n:=3) (s:=[some (.ref r),some (.ref mq),some (.int low),some (.int low),mid,none]) rfl (get_app (G:=[.frame]) hr) rfl rfl) (lenL (get_app hl) hc)
  refine exs_yes ?_ (exs_val ev_neg)
  by_cases e:low=ms.length
  ·exact tv_b (ev_or_t (ev_cmp (ev_var rfl) ln (eq_yes (congrArg Int.ofNat e))) rfl)
  ·exact tv_b (ev_or_f (ev_cmp (ev_var rfl) ln (eq_no λq=>e (Int.ofNat_inj.mp q))) rfl (ev_not (ev_av rfl (get_app hq) rfl rfl) rfl rfl))
theorem c_place_live (hr:H[r]?=some (mlO l made)) (hl:H[l]?=some (.list ms)) (hc:ms.length < capL) (hm:MarksAt H ms nums) (hq:H[mq]?=some (markO nq sq true)) (hi:ms[i]?=some (.ref mq)):run thePrg (n + 1) 4 [.ref r,.ref mq] H = .val (.int i) (H ++ [.frame]) :=
 place_pre hr hl hc hm hq λlow mid h1 h2=>by
  have hil:=(List.getElem?_eq_some_iff.mp hi).1
  have hin:nums[i]?=some nq:=by
   have hx:=List.getElem?_eq_getElem (hm.len ▸ hil:i < nums.length)
   obtain ⟨m,s,lv,a,b⟩:=hm.ob i _ hx
   rw [hi] at a
   cases a
   rw [hx,(mk_eq (hq.symm.trans b)).1]
  obtain rfl:low=i:=by
   rcases Nat.lt_trichotomy low i with q | q | q
   ·have hx:=List.getElem?_eq_getElem (hm.len ▸ Nat.lt_trans q hil:low < nums.length)
    exact absurd ((h2 low _ hx).mpr (hm.rise _ _ _ _ hx hin q)) (Nat.lt_irrefl low)
   ·exact q
   ·exact absurd ((h2 i nq hin).mp q) (Int.lt_irrefl nq)
  exact exs_no (tv_b (ev_or_f (ev_cmp (ev_var rfl) (ev_len (ev_av rfl (get_app hr) rfl rfl) (lenL (get_app hl) hc)) (eq_no λq=>Nat.ne_of_lt hil (Int.ofNat_inj.mp q))) rfl (ev_not (ev_av rfl (get_app hq) rfl rfl) rfl rfl)))
   (exs_nx (ex_assign (ev_idx (ev_av rfl (get_app hr) rfl rfl) (ev_var rfl) (idxL (get_app hl) hc rfl hi)))
    (exs_no (tv_b (ev_or_f (ev_cmp (ev_av rfl (get_app hq) rfl rfl) (ev_av rfl (get_app hq) rfl rfl) (ne_no rfl)) rfl (ev_cmp (ev_av rfl (get_app hq) rfl rfl) (ev_av rfl (get_app hq) rfl rfl) (ne_no rfl)))) (exs_val (ev_var rfl))))
theorem c_mlSize (hr:H[r]?=some (mlO l made)) (hl:H[l]?=some (.list ms)) (hc:ms.length < capL):run thePrg (n + 1) 2 [.ref r] H = .val (.int ms.length) (H ++ [.frame]) :=
 run_ret (D:=⟨1,1,b_MarkList_size,[]⟩) rfl rfl rfl (exs_val (ev_len (ev_av rfl (get_app hr) rfl rfl) (lenL (get_app hl) hc)))
theorem c_mlSmallest (hr:H[r]?=some (mlO l made)) (hl:H[l]?=some (.list (.ref m :: ms))) (hc:(V.ref m :: ms).length < capL) (hm:H[m]?=some (markO num sq live)):run thePrg (n + 1) 8 [.ref r] H = .val (.int sq) (H ++ [.frame]) :=
 run_ret (D:=⟨1,1,b_MarkList_smallest,[]⟩) rfl rfl rfl (exs_no (tv_b (ev_not (ev_av rfl (get_app hr) rfl rfl) (truth_list (get_app hl) hc) rfl)) (exs_val (ev_attr (ev_idx (ev_av rfl (get_app hr) rfl rfl) ev_int (idxL (i:=0) (get_app hl) hc rfl rfl)) (attr_of (get_app hm) rfl rfl))))
theorem c_mlSmallest0 (hr:H[r]?=some (mlO l made)) (hl:H[l]?=some (.list [])):run thePrg (n + 1) 8 [.ref r] H = .exc 4 (H ++ [.frame]) :=
 run_exc (D:=⟨1,1,b_MarkList_smallest,[]⟩) rfl rfl rfl (exs_exc (ex_ite_t (tv_b (ev_not (ev_av rfl (get_app hr) rfl rfl) (truth_list (get_app hl) (by decide)) rfl)) (exs_exc ex_raise)))
theorem c_mlDrop_dead (hr:H[r]?=some (mlO l made)) (hl:H[l]?=some (.list ms)) (hc:ms.length < capL) (hm:MarksAt H ms nums) (hq:H[mq]?=some (markO nq sq false)):run thePrg (n + 2) 6 [.ref r,.ref mq] H = .exc 8 (H ++ [.frame,.frame]):=by
 have e:=c_place_dead (n:=n) (get_app (G:=[.frame]) hr) (get_app hl) hc hm.app (get_app hq)
 rw [List.append_assoc] at e
 exact run_exc (D:=⟨2,3,b_MarkList_drop,[]⟩) rfl rfl rfl (exs_nx (ex_assign (ev_meth (ev_var rfl) (meth_at (get_app hr) rfl rfl) (evs_cons (ev_var rfl) evs_nil) e)) (exs_exc (ex_ite_t (tv_cmp (ev_var rfl) ev_int rfl) (exs_exc ex_raise))))
theorem c_mlDrop_live (hr:H[r]?=some (mlO l made)) (hl:H[l]?=some (.list ms)) (hc:ms.length < capL) (hm:MarksAt H ms nums) (hq:H[mq]?=some (markO nq sq true)) (hi:ms[i]?=some (.ref mq)) :
  run thePrg (n + 2) 6 [.ref r,.ref mq] H = .val .none (((H.set mq (markO nq sq false)).set l (.list (ms.eraseIdx i))) ++ [.frame,.frame]):=by
 have n1:r ≠ mq:=λq=>by rw [← q,hr] at hq;cases hq
 have n2:l ≠ mq:=λq=>by rw [← q,hl] at hq;cases hq
 have e:=c_place_live (n:=n) (get_app (G:=[.frame]) hr) (get_app hl) hc hm.app (get_app hq) hi
 rw [List.append_assoc] at e
 have e1:(H ++ [O.frame,.frame]).set mq (markO nq sq false)=H.set mq (markO nq sq false) ++ [.frame,.frame]:=set_app (lt_of_get hq)
 have e2:(H.set mq (markO nq sq false) ++ [O.frame,.frame]).set mq (markO nq sq false)=H.set mq (markO nq sq false) ++ [.frame,.frame]:=by rw [set_app (by rw [List.length_set];exact lt_of_get hq),List.set_set]
 rw [← set_app (B:=[.frame,.frame]) (by rw [List.length_set];exact lt_of_get hl)]
 have or:=get_app (G:=[.frame,.frame]) (get_set_ne (o':=markO nq sq false) hr n1)
 have ol:=get_app (G:=[.frame,.frame]) (get_set_ne (o':=markO nq sq false) hl n2)
 exact run_nx (D:=⟨2,3,b_MarkList_drop,[]⟩) rfl rfl rfl (exs_nx (ex_assign (ev_meth (ev_var rfl) (meth_at (get_app hr) rfl rfl) (evs_cons (ev_var rfl) evs_nil) e)) (exs_no (tv_cmp (ev_var rfl) ev_int (lt_no (Int.natCast_nonneg i)))
  (exs_nx (ex_setattr ev_bool (ev_idx (ev_av rfl (get_app hr) rfl rfl) (ev_var rfl) (idxL (get_app hl) hc rfl hi)) ((setAttr_of (get_app hq) rfl (Nat.le_of_ble_eq_true rfl)).trans (congrArg some e1)))
   (exs_nx (ex_setattr ev_bool (ev_var rfl) ((setAttr_of (get_app (get_set_eq hq)) rfl (Nat.le_of_ble_eq_true rfl)).trans (congrArg some e2)))
    (exs_nx (ex_delidx (ev_av rfl or rfl rfl) (ev_var rfl) (delIdx_of ol hc (List.getElem?_eq_some_iff.mp hi).1)) exs_nil)))))
end
structure Tw where
 a:Nat
 lk:Nat
 ht:Nat
 key:List UInt8
 val:List UInt8
 u:List UInt8
 sq:Nat
 kd:Nat
noncomputable def twO (x:Tw):O:=.inst 15 [(36,.bytes x.key),(37,.bytes x.val),(38,.ref x.lk)]
noncomputable def nxt (l:Nat):List Tw→V
 | []=>.none
 | x :: r=>if l < x.ht then .ref x.a else nxt l r
noncomputable def lst (l:Nat) (d:Tw):List Tw→Tw
 | []=>d
 | x :: r=>lst l (if l < x.ht then x else d) r
noncomputable def SkG (H:Hp) (f:Nat→List Tw→V):List Tw→Prop
 | []=>True
 | x :: r=>(H[x.a]?=some (twO x)∧H[x.lk]?=some (.list ((List.range x.ht).map λl=>f l r)))∧SkG H f r
theorem SkG.mono {H H':Hp} {f:Nat→List Tw→V}:∀ {L:List Tw},SkG H f L→(∀ x ∈ L,∀ o,H[x.a]?=some o→H'[x.a]?=some o)→(∀ x ∈ L,∀ o,H[x.lk]?=some o→H'[x.lk]?=some o)→SkG H' f L
 | [],_,_,_=>trivial
 | x :: r,h,a,b=>⟨⟨a x (.head _) _ h.1.1,b x (.head _) _ h.1.2⟩,SkG.mono h.2 (λy hy=>a y (.tail _ hy)) λy hy=>b y (.tail _ hy)⟩
theorem SkG.split {H:Hp}:∀ {P:List Tw} {f:Nat→List Tw→V} {Q:List Tw},SkG H f (P ++ Q) ↔ SkG H (λl s=>f l (s ++ Q)) P∧SkG H f Q
 | [],f,Q=>⟨λh=>⟨trivial,h⟩,λh=>h.2⟩
 | x :: r,f,Q=>⟨λh=>⟨⟨h.1,(SkG.split.mp h.2).1⟩,(SkG.split.mp h.2).2⟩,λh=>⟨h.1.1,SkG.split.mpr ⟨h.1.2,h.2⟩⟩⟩
theorem SkG.congr {H:Hp} {f g:Nat→List Tw→V}:∀ {L:List Tw},SkG H f L→(∀ p x s l,L=p ++ x :: s→l < x.ht→f l s=g l s)→SkG H g L
 | [],_,_=>trivial
 | x :: r,h,e=>⟨⟨h.1.1,by
   rw [h.1.2]
   exact congrArg (λz=>some (O.list z)) (List.map_congr_left λl hl=>e [] x r l rfl (List.mem_range.mp hl))⟩,
  SkG.congr h.2 λp y s l q hl=>e (x :: p) y s l (by rw [q];rfl) hl⟩
theorem SkG.at {H:Hp} {f:Nat→List Tw→V} {p:List Tw} {x:Tw} {s:List Tw} (h:SkG H f (p ++ x :: s)):H[x.a]?=some (twO x)∧H[x.lk]?=some (.list ((List.range x.ht).map λl=>f l s)):=(SkG.split.mp h).2.1
theorem nxt_low {l:Nat} {Z:List Tw}:∀ {R:List Tw},(∀ x ∈ R,x.ht ≤ l)→nxt l (R ++ Z)=nxt l Z
 | [],_=>rfl
 | x :: r,h=>by
  show (if l < x.ht then _ else nxt l (r ++ Z))=_
  rw [if_neg (Nat.not_lt.mpr (h x (.head _)))]
  exact nxt_low λy hy=>h y (.tail _ hy)
theorem nxt_hit {l:Nat} {r1 r2:List Tw} {x:Tw} (h:∀ y ∈ r1,y.ht ≤ l) (hx:l < x.ht):nxt l (r1 ++ x :: r2) = .ref x.a:=by
 rw [nxt_low h]
 show (if l < x.ht then _ else _)=_
 rw [if_pos hx]
theorem nxt_find (l:Nat):∀ (R:List Tw),(∀ x ∈ R,x.ht ≤ l)∨Ex3 λr1 x r2=>And3 (R=r1 ++ x :: r2) ((∀ y ∈ r1,y.ht ≤ l)) (l < x.ht)
 | []=>.inl λ_ h=>nomatch h
 | x :: r=>by
  by_cases hx:l < x.ht
  ·exact .inr ⟨[],x,r,rfl,(λ_ h=>nomatch h),hx⟩
  ·rcases nxt_find l r with h | ⟨r1,y,r2,e,h1,h2⟩
   ·exact .inl λy hy=>by
     rcases List.mem_cons.mp hy with rfl | q
     ·exact Nat.not_lt.mp hx
     ·exact h y q
   ·exact .inr ⟨x :: r1,y,r2,by rw [e];rfl,λz hz=>by
     rcases List.mem_cons.mp hz with rfl | q
     ·exact Nat.not_lt.mp hx
     ·exact h1 z q,h2⟩
theorem nxt_tail {l:Nat} {s Z Z':List Tw} (h:∃ x ∈ s,l < x.ht):nxt l (s ++ Z)=nxt l (s ++ Z'):=by
 rcases nxt_find l s with q | ⟨r1,x,r2,rfl,h1,h2⟩
 ·obtain ⟨x,hx,hl⟩:=h
  exact absurd hl (Nat.not_lt.mpr (q x hx))
 ·rw [List.append_assoc,List.append_assoc,List.cons_append,List.cons_append,nxt_hit h1 h2,nxt_hit h1 h2]
theorem lst_low {l:Nat}:∀ {R:List Tw} {d:Tw},(∀ x ∈ R,x.ht ≤ l)→lst l d R=d
 | [],_,_=>rfl
 | x :: r,d,h=>by
  show lst l (if l < x.ht then x else d) r=d
  rw [if_neg (Nat.not_lt.mpr (h x (.head _)))]
  exact lst_low λy hy=>h y (.tail _ hy)
theorem lst_app {l:Nat} {Q:List Tw}:∀ {P:List Tw} {d:Tw},lst l d (P ++ Q)=lst l (lst l d P) Q
 | [],_=>rfl
 | x :: r,d=>lst_app (P:=r)
theorem lst_is {l:Nat} {d:Tw} {A pre R:List Tw} {x:Tw} (e:d :: A=pre ++ x :: R) (hx:l < x.ht) (hR:∀ y ∈ R,y.ht ≤ l):lst l d A=x:=by
 cases pre with
 | nil =>
  obtain ⟨rfl,rfl⟩:=List.cons.inj e
  exact lst_low hR
 | cons p pre =>
  obtain ⟨rfl,rfl⟩:=List.cons.inj e
  show lst l d (pre ++ x :: R)=x
  rw [lst_app]
  show lst l (if l < x.ht then x else _) R=x
  rw [if_pos hx]
  exact lst_low hR
theorem lst_at {l:Nat} {d:Tw} {A:List Tw} (hd:l < d.ht):Ex3 λpre x R=>And4 (d :: A=pre ++ x :: R) (l < x.ht) ((∀ y ∈ R,y.ht ≤ l)) (lst l d A=x):=by
 have go:∀ (A:List Tw) (d:Tw),l < d.ht→Ex3 λpre x R=>And3 (d :: A=pre ++ x :: R) (l < x.ht) ((∀ y ∈ R,y.ht ≤ l)):=by
  intro A
  induction A with
  | nil=>intro d hd;exact ⟨[],d,[],rfl,hd,λ_ h=>nomatch h⟩
  | cons y A ih =>
   intro d hd
   by_cases hy:l < y.ht
   ·obtain ⟨pre,x,R,e,h1,h2⟩:=ih y hy
    exact ⟨d :: pre,x,R,by rw [e];rfl,h1,h2⟩
   ·obtain ⟨pre,x,R,e,h1,h2⟩:=ih d hd
    cases pre with
    | nil =>
     obtain ⟨rfl,rfl⟩:=List.cons.inj e
     exact ⟨[],d,y :: A,rfl,hd,λz hz=>by
      rcases List.mem_cons.mp hz with rfl | q
      ·exact Nat.not_lt.mp hy
      ·exact h2 z q⟩
    | cons p pre =>
     obtain ⟨rfl,rfl⟩:=List.cons.inj e
     exact ⟨d :: y :: pre,x,R,rfl,h1,h2⟩
 obtain ⟨pre,x,R,e,h1,h2⟩:=go A d hd
 exact ⟨pre,x,R,e,h1,h2,lst_is e h1 h2⟩
theorem map_set {β:Type} {n k:Nat} {f:Nat→β} {v:β}:((List.range n).map f).set k v=(List.range n).map λi=>if i=k then v else f i:=by
 apply List.ext_getElem?
 intro i
 by_cases hi:i=k
 ·subst hi
  by_cases hn:i < n
  ·rw [List.getElem?_set_self (by simpa using hn)];simp [hn]
  ·rw [List.getElem?_eq_none (by simp;exact Nat.not_lt.mp ‹_›),List.getElem?_eq_none (by simp;exact Nat.not_lt.mp ‹_›)]
 ·rw [List.getElem?_set_ne (Ne.symm hi)]
  by_cases hn:i < n <;> simp [hn,hi]
theorem map_get {β:Type} {n k:Nat} {f:Nat→β} (h:k < n):((List.range n).map f)[k]?=some (f k):=by simp [h]
structure SkAt (H:Hp) (rk:Nat) (hd:Tw) (tw:List Tw) (ht ad ro hp:Nat):Prop where
 obj:H[rk]?=some (.inst 16 [(39,.ref ro),(22,.ref hp),(40,.ref hd.a),(41,.int ht),(42,.int ad)])
 ord:OrdAt H ro
 hts:H[hp]?=some (.tuple [.int 1,.int 2,.int 1,.int 3,.int 1,.int 2,.int 1,.int 4])
 sk:SkG H nxt (hd :: tw)
 hh:hd.ht=12
 top:1 ≤ ht∧ht ≤ 12
 hi:∀ x ∈ tw,1 ≤ x.ht∧x.ht ≤ ht
 key:∀ x ∈ tw,x.key=ik x.u x.sq x.kd∧x.u.length < 1000∧x.sq < 72057594037927936∧(x.kd=0∨x.kd=1)
 len:tw.length < 1000
 nd:((hd :: tw).map (·.lk)).Nodup
theorem SkAt.pre {H H':Hp} {rk:Nat} {hd:Tw} {tw:List Tw} {ht ad ro hp:Nat} (p:H <+: H') (h:SkAt H rk hd tw ht ad ro hp):SkAt H' rk hd tw ht ad ro hp :=
 ⟨get_pre p h.obj,h.ord.pre p,get_pre p h.hts,h.sk.mono (λ_ _ _ q=>get_pre p q) λ_ _ _ q=>get_pre p q,h.hh,h.top,h.hi,h.key,h.len,h.nd⟩
theorem SkAt.app {H G:Hp} {rk:Nat} {hd:Tw} {tw:List Tw} {ht ad ro hp:Nat} (h:SkAt H rk hd tw ht ad ro hp):SkAt (H ++ G) rk hd tw ht ad ro hp:=h.pre pre1
noncomputable def cmpT (x:Tw) (u:List UInt8) (sq kd:Nat):Int:=cmpK x.u (x.sq * 256 + x.kd) u (sq * 256 + kd)
noncomputable def bk (A:List Tw):V:=match A.getLast? with
 | some x=>.ref x.a
 | none=>.none
theorem bk_at {hd:Tw} {A pre:List Tw} {cur:Tw} (e:hd :: A=pre ++ [cur]):bk A=if pre = [] then .none else .ref cur.a:=by
 cases pre with
 | nil=>obtain ⟨_,rfl⟩:=List.cons.inj e;rfl
 | cons p pre =>
  obtain ⟨_,rfl⟩:=List.cons.inj e
  show bk (pre ++ [cur])=_
  unfold bk
  rw [List.getLast?_concat];rfl
theorem ahead {l:Nat} {R Z:List Tw}:(Ex3 λr1 x r2=>And4 (R=r1 ++ x :: r2) ((∀ y ∈ r1,y.ht ≤ l)) (l < x.ht) (nxt l (R ++ Z) = .ref x.a)) ∨
  ((∀ y ∈ R,y.ht ≤ l)∧(nxt l (R ++ Z) = .none∨∃ z ∈ Z,nxt l (R ++ Z) = .ref z.a)):=by
 rcases nxt_find l R with h | ⟨r1,x,r2,rfl,h1,h2⟩
 ·refine .inr ⟨h,?_⟩
  rw [nxt_low h]
  rcases nxt_find l Z with q | ⟨r1,x,r2,rfl,h1,h2⟩
  ·left
   have:=nxt_low (Z:=[]) q
   rw [List.append_nil] at this
   rw [this];rfl
  ·exact .inr ⟨x,List.mem_append_right _ (.head _),nxt_hit h1 h2⟩
 ·exact .inl ⟨r1,x,r2,rfl,h1,h2,by rw [List.append_assoc];exact nxt_hit h1 h2⟩
theorem mem_cut {hd x:Tw} {A pre R:List Tw} {y:Tw} (e:hd :: A=pre ++ y :: R) (h:x ∈ R):x ∈ A:=by
 cases pre with
 | nil=>obtain ⟨_,rfl⟩:=List.cons.inj e;exact h
 | cons p pre=>obtain ⟨_,rfl⟩:=List.cons.inj e;exact List.mem_append_right _ (.tail _ h)
noncomputable def aheadT (op:Cop) (i:Nat):E:=.and (.notNone (.var i)) (.cmp op (.meth (.attr (.var 0) 39) 13 (.cons (.attr (.var i) 36) (.cons (.var 1) .nil))) (.int 0))
theorem tv_none {call:CallF} {op:Cop} {i:Nat} {e:En} {H:Hp} (l:look e i=some .none):TV call (aheadT op i) e H false H:=tv_b (ev_and_f (ev_notNone (ev_var l) rfl) rfl)
section
variable {H:Hp} {rk:Nat} {hd:Tw} {tw:List Tw} {ht ad ro hp:Nat} {n sq kd i:Nat} {u v:List UInt8} {A Z:List Tw}
theorem SkAt.ht12 (h:SkAt H rk hd tw ht ad ro hp) {x:Tw} (hx:x ∈ hd :: tw):x.ht ≤ 12:=by
 rcases List.mem_cons.mp hx with rfl | q
 ·exact Nat.le_of_eq h.hh
 ·exact Nat.le_trans (h.hi x q).2 h.top.2
theorem SkAt.link (h:SkAt H rk hd tw ht ad ro hp) {pre s:List Tw} {x:Tw} (e:hd :: tw=pre ++ x :: s) {l:Nat} (hl:l < x.ht):H[x.a]?=some (twO x)∧getIdx (.ref x.lk) (.int l) H=some (nxt l s):=by
 have q:=SkG.at (e ▸ h.sk)
 refine ⟨q.1,idxL (i:=l) q.2 ?_ rfl (map_get hl)⟩
 rw [List.length_map,List.length_range]
 exact Nat.lt_of_le_of_lt (h.ht12 (e ▸ List.mem_append_right _ (.head _))) (by decide)
theorem tv_ahead (h:SkAt H rk hd tw ht ad ro hp) (hu:u.length < 1000) (hs:sq < 72057594037927936) (hk:kd < 256) {x:Tw} (hx:x ∈ tw) {e:En} (l0:look e 0=some (.ref rk)) (l1:look e 1=some (.bytes (ik u sq kd))) (li:look e i=some (.ref x.a)) {op:Cop} {b:Bool}
  (hb:∀ H',cop op (.int (cmpT x u sq kd)) (.int 0) H'=some b):∃ H',TV (run thePrg (n + 4)) (aheadT op i) e H b H'∧H <+: H':=by
 obtain ⟨pre,s,e1⟩:=List.append_of_mem hx
 have q:=(SkG.at (p:=hd :: pre) (by rw [List.cons_append,← e1];exact h.sk)).1
 obtain ⟨k1,k2,k3,k4⟩:=h.key x hx
 obtain ⟨H',e',p⟩:=c_cmpK (n:=n) (sq:=x.sq) (kd:=x.kd) h.ord k2 hu k3 hs (by rcases k4 with q | q <;> rw [q] <;> decide) hk
 rw [← k1] at e'
 obtain ⟨r2,o1,o2⟩:=h.ord
 exact ⟨H',tv_b (ev_and_t (ev_notNone (ev_var li) rfl) rfl (ev_cmp (ev_meth (ev_av l0 h.obj rfl rfl) (meth_at o1 rfl rfl) (evs_cons (ev_av li q rfl rfl) (evs_cons (ev_var l1) evs_nil)) e') ev_int (hb H'))),p⟩
inductive WkI (hd:Tw) (A:List Tw) (P:Nat→Hp→Prop) (E:List Tw→Tw→Nat→Option V→En) (k:Nat) (e:En) (h:Hp):Prop where
 | mk (pre:List Tw) (cur:Tw) (R:List Tw) (m:Nat) (v5:Option V) (he:e=E pre cur m v5) (p:P m h) (ea:hd :: A=pre ++ cur :: R) (h1:m ≤ cur.ht) (h2:∀ x ∈ R,x.ht ≤ m) (hk:k=R.length + m)
theorem wk_zero {pre R:List Tw} {cur:Tw} (h:SkAt H rk hd (A ++ Z) ht ad ro hp) (e:hd :: A=pre ++ cur :: R) (h2:∀ x ∈ R,x.ht ≤ 0):R = []:=by
 cases R with
 | nil=>rfl
 | cons x R=>exact absurd (h.hi x (List.mem_append_left _ (mem_cut e (.head _)))).1 (Nat.not_le.mpr (Nat.lt_succ_of_le (h2 x (.head _))))
theorem wk_cap (h:SkAt H rk hd (A ++ Z) ht ad ro hp):A.length + ht < capL:=by
 have h1:=h.len
 rw [List.length_append] at h1
 exact Nat.lt_of_le_of_lt (Nat.add_le_add (Nat.le_of_lt (Nat.lt_of_le_of_lt (Nat.le_add_right _ _) h1)) h.top.2) (by decide)
theorem wk_start {P:Nat→Hp→Prop} {E:List Tw→Tw→Nat→Option V→En} (h:SkAt H rk hd (A ++ Z) ht ad ro hp) {e:En} {h':Hp} (he:e=E [] hd ht none) (p:P ht h'):WkI hd A P E (A.length + ht) e h' :=
 ⟨[],hd,A,ht,none,he,p,rfl,by rw [h.hh];exact h.top.2,λx hx=>(h.hi x (List.mem_append_left _ hx)).2,rfl⟩
theorem int_pred (l:Nat):((l + 1:Nat):Int) - 1=(l:Nat):=Int.add_sub_cancel l 1
theorem wk_lt {r1 r2:List Tw} {x:Tw} {m:Nat}:r2.length + m < (r1 ++ x :: r2).length + m:=Nat.add_lt_add_right (by rw [List.length_append];exact Nat.lt_of_lt_of_le (Nat.lt_succ_self _) (Nat.le_add_left _ _)) m
theorem app_ne {pre r1:List Tw} {cur:Tw} (v w:V):(if pre ++ cur :: r1 = [] then v else w)=w:=by cases pre <;> rfl
noncomputable def bfE (rk:Nat) (ky:List UInt8) (pre:List Tw) (cur:Tw) (l:Int) (v5:Option V):En:=[some (.ref rk),some (.bytes ky),some (if pre = [] then V.none else .ref cur.a),some (.ref cur.a),some (.int l),v5]
theorem c_before (h:SkAt H rk hd (A ++ Z) ht ad ro hp) (hu:u.length < 1000) (hs:sq < 72057594037927936) (hk:kd < 256) (hA:∀ x ∈ A,cmpT x u sq kd < 0) (hZ:∀ x ∈ Z,¬ cmpT x u sq kd < 0):Pv (run thePrg (n + 5) 29 [.ref rk,.bytes (ik u sq kd)] H) (bk A) H:=by
 have ob:=get_app (G:=[.frame]) h.obj
 obtain ⟨_,e,H',v3,v4,v5,rfl,p⟩:=ex_while (call:=run thePrg (n + 4)) (a:=.cmp .ge (.var 4) (.int 0)) (B:=.cons (.assign 5 (.idx (.attr (.var 3) 38) (.var 4))) (.cons (.ite (aheadT .lt 5) (.cons (.assign 3 (.var 5)) (.cons (.assign 2 (.var 5)) .nil)) (.cons (.aug 4 .sub (.int 1)) .nil)) .nil))
  (λr=>Ex4 λH' v3 v4 v5=>r = .nx [some (.ref rk),some (.bytes (ik u sq kd)),some (bk A),v3,v4,v5] H'∧H ++ [.frame] <+: H')
  (WkI hd A (λ_ h=>H ++ [.frame] <+: h) λpre cur m v5=>bfE rk (ik u sq kd) pre cur ((m:Nat) - 1) v5) (wk_cap h) (wk_start h rfl (List.prefix_refl _)) (by
   rintro k e h' ⟨pre,cur,R,m,v5,rfl,p,ea,h1,h2,rfl⟩
   have hh:=h.pre (pre1.trans p)
   cases m with
   | zero =>
    obtain rfl:=wk_zero h ea h2
    exact .inl ⟨h',tv_cmp (ev_var rfl) ev_int rfl,h',_,_,_,by rw [bk_at ea];rfl,p⟩
   | succ l =>
    rw [int_pred]
    obtain ⟨q1,q2⟩:=hh.link (pre:=pre) (x:=cur) (s:=R ++ Z) (by rw [← List.cons_append,ea,List.append_assoc];rfl) (l:=l) h1
    have st:=ex_assign (x:=5) (call:=run thePrg (n + 4)) (s:=(bfE rk (ik u sq kd) pre cur (l:Nat) v5)) (ev_idx (ev_av (x:=3) (n:=38) rfl q1 rfl rfl) (ev_var (x:=4) rfl) q2)
    refine .inr ⟨h',tv_cmp (ev_var rfl) ev_int (ge_yes (Int.natCast_nonneg l)),?_⟩
    rcases ahead (l:=l) (R:=R) (Z:=Z) with ⟨r1,x,r2,rfl,g1,g2,g3⟩ | ⟨g1,g2⟩
    ·rw [g3] at st
     have hx:=mem_cut ea (List.mem_append_right r1 (.head r2))
     obtain ⟨h2',t,p2⟩:=tv_ahead (n:=n) (i:=5) hh hu hs hk (List.mem_append_left _ hx) (e:=put (bfE rk (ik u sq kd) pre cur (l:Nat) v5) 5 (.ref x.a)) rfl rfl rfl (op:=.lt) (λ_=>lt_yes (H:=[]) (hA x hx))
     exact ⟨_,exs_nx st (exs_nx (ex_ite_t t (exs_nx (ex_assign (ev_var rfl)) (exs_nx (ex_assign (ev_var rfl)) exs_nil))) exs_nil),_,wk_lt,pre ++ cur :: r1,x,r2,l + 1,some (.ref x.a),by unfold bfE;rw [app_ne,int_pred];rfl,p.trans p2,by rw [ea,List.append_assoc];rfl,g2,λy hy=>h2 y (List.mem_append_right _ (.tail _ hy)),rfl⟩
    ·suffices fin:∃ h2',TV (run thePrg (n + 4)) (aheadT .lt 5) (put (bfE rk (ik u sq kd) pre cur (l:Nat) v5) 5 (nxt l (R ++ Z))) h' false h2'∧h' <+: h2' by
      obtain ⟨h2',t,p2⟩:=fin
      exact ⟨_,exs_nx st (exs_nx (ex_ite_f t (exs_nx (ex_aug (v:=.int ((l:Nat) - 1)) rfl ev_int rfl) exs_nil)) exs_nil),R.length + l,Nat.lt_succ_self _,pre,cur,R,l,_,rfl,p.trans p2,ea,Nat.le_of_lt h1,g1,rfl⟩
     rcases g2 with g2 | ⟨z,hz,g2⟩
     ·exact ⟨h',tv_none (congrArg some g2),List.prefix_refl _⟩
     ·exact tv_ahead (n:=n) (i:=5) hh hu hs hk (List.mem_append_right _ hz) (e:=put (bfE rk (ik u sq kd) pre cur (l:Nat) v5) 5 (nxt l (R ++ Z))) rfl rfl (congrArg some g2) (op:=.lt) (λ_=>lt_no (H:=[]) (Int.not_lt.mp (hZ z hz))))
 exact pv_ret (D:=⟨2,6,b_SkipList_before_tower,[]⟩) rfl rfl rfl p (exs_nx (ex_assign ev_none) (exs_nx (ex_assign (ev_av rfl ob rfl rfl)) (exs_nx (ex_assign (ev_bin (ev_av rfl ob rfl rfl) ev_int rfl)) (exs_nx e (exs_val (ev_var rfl))))))
end
theorem pre_set {H h:Hp} {t:Nat} {o:O} (p:H <+: h) (ht:H.length ≤ t):H <+: h.set t o:=by
 obtain ⟨G,rfl⟩:=p
 rw [List.set_append_right _ _ ht];exact pre1
noncomputable def trF (hd:Tw) (A:List Tw) (m:Nat):List V:=(List.range 12).map λl=>.ref (if m ≤ l then lst l hd A else hd).a
noncomputable def trl (hd:Tw) (A:List Tw):List V:=trF hd A 0
theorem trF_set {hd cur:Tw} {A:List Tw} {l:Nat} (h:lst l hd A=cur):(trF hd A (l + 1)).set l (.ref cur.a)=trF hd A l:=by
 unfold trF
 rw [map_set]
 refine List.map_congr_left λi _=>?_
 by_cases q:i=l
 ·subst q;rw [if_pos rfl,if_pos (Nat.le_refl _),h]
 ·rw [if_neg q]
  by_cases q2:l + 1 ≤ i
  ·rw [if_pos q2,if_pos (Nat.le_of_succ_le q2)]
  ·rw [if_neg q2,if_neg λz=>q2 (Nat.lt_of_le_of_ne z (Ne.symm q))]
theorem trF_top {hd:Tw} {A:List Tw} {m:Nat} (h:∀ x ∈ A,x.ht ≤ m):List.replicate 12 (V.ref hd.a)=trF hd A m:=by
 show (List.range 12).map (λ_=>V.ref hd.a)=_
 refine List.map_congr_left λl _=>?_
 by_cases q:m ≤ l
 ·rw [if_pos q,lst_low λx hx=>Nat.le_trans (h x hx) q]
 ·rw [if_neg q]
theorem tr_cap {hd:Tw} {A:List Tw} {m:Nat}:(trF hd A m).length < capL:=by unfold trF;rw [List.length_map,List.length_range];decide
theorem bop_rep {H:Hp} {x:Nat} {v:V} {j:Nat} (h:H[x]?=some (.list [v])) (hj:(j:Int) < capL):bop .mul (.ref x) (.int j) H=some (.ref H.length,H ++ [.list (List.replicate j v)]):=by
 unfold bop;dsimp only;rw [h];exact if_pos ⟨rfl,Int.natCast_nonneg j,hj⟩
section
variable {H:Hp} {rk:Nat} {hd:Tw} {tw:List Tw} {ht ad ro hp:Nat} {n sq kd i:Nat} {u v:List UInt8} {A Z:List Tw}
noncomputable def laE (rk:Nat) (pre:List Tw) (cur:Tw) (l:Int) (v5:Option V):En:=[some (.ref rk),some (if pre = [] then V.none else .ref cur.a),some (.ref cur.a),some (.int l),v5]
theorem c_last (h:SkAt H rk hd A ht ad ro hp):Pv (run thePrg (n + 1) 30 [.ref rk] H) (bk A) H:=by
 have ob:=get_app (G:=[.frame]) h.obj
 have h0:SkAt (H ++ [.frame]) rk hd (A ++ []) ht ad ro hp:=by rw [List.append_nil];exact h.app
 obtain ⟨_,e,v3,v4,v5,rfl⟩:=ex_while (call:=run thePrg n) (a:=.cmp .ge (.var 3) (.int 0)) (B:=.cons (.assign 4 (.idx (.attr (.var 2) 38) (.var 3))) (.cons (.ite (.notNone (.var 4)) (.cons (.assign 2 (.var 4)) (.cons (.assign 1 (.var 4)) .nil)) (.cons (.aug 3 .sub (.int 1)) .nil)) .nil))
  (λr=>Ex3 λv3 v4 v5=>r = .nx [some (.ref rk),some (bk A),v3,v4,v5] (H ++ [.frame])) (WkI hd A (λ_ h=>h=H ++ [.frame]) λpre cur m v5=>laE rk pre cur ((m:Nat) - 1) v5) (wk_cap h0) (wk_start h0 rfl rfl) (by
   rintro k e _ ⟨pre,cur,R,m,v5,rfl,rfl,ea,h1,h2,rfl⟩
   cases m with
   | zero =>
    obtain rfl:=wk_zero h0 ea h2
    exact .inl ⟨_,tv_cmp (ev_var rfl) ev_int rfl,_,_,_,by rw [bk_at ea];rfl⟩
   | succ l =>
    rw [int_pred]
    obtain ⟨q1,q2⟩:=h0.link (pre:=pre) (x:=cur) (s:=R) (by rw [List.append_nil];exact ea) (l:=l) h1
    have st:=ex_assign (x:=4) (call:=run thePrg n) (s:=laE rk pre cur (l:Nat) v5) (ev_idx (ev_av (x:=2) (n:=38) rfl q1 rfl rfl) (ev_var (x:=3) rfl) q2)
    refine .inr ⟨_,tv_cmp (ev_var rfl) ev_int (ge_yes (Int.natCast_nonneg l)),?_⟩
    have ha:=ahead (l:=l) (R:=R) (Z:=[])
    rw [List.append_nil] at ha
    rcases ha with ⟨r1,x,r2,rfl,g1,g2,g3⟩ | ⟨g1,g2⟩
    ·rw [g3] at st
     exact ⟨_,exs_nx st (exs_nx (ex_ite_t (tv_b (ev_notNone (ev_var rfl) rfl)) (exs_nx (ex_assign (ev_var rfl)) (exs_nx (ex_assign (ev_var rfl)) exs_nil))) exs_nil),_,wk_lt,pre ++ cur :: r1,x,r2,l + 1,some (.ref x.a),by unfold laE;rw [app_ne,int_pred];rfl,rfl,by rw [ea,List.append_assoc];rfl,g2,λy hy=>h2 y (List.mem_append_right _ (.tail _ hy)),rfl⟩
    ·rw [g2.resolve_right λ⟨z,hz,_⟩=>nomatch hz] at st
     exact ⟨_,exs_nx st (exs_nx (ex_ite_f (tv_b (ev_notNone (ev_var rfl) rfl)) (exs_nx (ex_aug (v:=.int ((l:Nat) - 1)) rfl ev_int rfl) exs_nil)) exs_nil),R.length + l,Nat.lt_succ_self _,pre,cur,R,l,some .none,rfl,rfl,ea,Nat.le_of_lt h1,g1,rfl⟩)
 exact pv_ret (D:=⟨1,5,b_SkipList_last_tower,[]⟩) rfl rfl rfl (List.prefix_refl _) (exs_nx (ex_assign ev_none) (exs_nx (ex_assign (ev_av rfl ob rfl rfl)) (exs_nx (ex_assign (ev_bin (ev_av rfl ob rfl rfl) ev_int rfl)) (exs_nx e (exs_val (ev_var rfl))))))
theorem c_first (h:SkAt H rk hd A ht ad ro hp):Pv (run thePrg (n + 1) 27 [.ref rk] H) (nxt 0 A) H:=by
 have h0:SkAt (H ++ [.frame]) rk hd A ht ad ro hp:=h.app
 obtain ⟨q1,q2⟩:=h0.link (pre:=[]) (x:=hd) (s:=A) rfl (l:=0) (by rw [h.hh];decide)
 exact pv_ret (D:=⟨1,1,b_SkipList_first_tower,[]⟩) rfl rfl rfl (List.prefix_refl _) (exs_val (ev_idx (ev_attr (ev_av rfl h0.obj rfl rfl) (attr_of q1 rfl rfl)) ev_int q2))
inductive TrR (H:Hp) (hd:Tw) (A:List Tw) (c:CRes):Prop where
 | mk (t:Nat) (H':Hp) (e:c = .val (.ref t) H') (p:H <+: H') (ht:H.length ≤ t) (o:H'[t]?=some (.list (trl hd A)))
noncomputable def trE (rk:Nat) (ky:List UInt8) (t:Nat) (cur:Tw) (l:Int) (v5:Option V):En:=[some (.ref rk),some (.bytes ky),some (.ref t),some (.ref cur.a),some (.int l),v5]
theorem c_trail (h:SkAt H rk hd (A ++ Z) ht ad ro hp) (hu:u.length < 1000) (hs:sq < 72057594037927936) (hk:kd < 256) (hA:∀ x ∈ A,cmpT x u sq kd < 0) (hZ:∀ x ∈ Z,¬ cmpT x u sq kd < 0):TrR H hd A (run thePrg (n + 5) 25 [.ref rk,.bytes (ik u sq kd)] H):=by
 have h0:SkAt (H ++ [.frame]) rk hd (A ++ Z) ht ad ro hp:=h.app
 have h1':SkAt (H ++ [.frame] ++ [.list [.ref hd.a]]) rk hd (A ++ Z) ht ad ro hp:=h0.app
 have h2':SkAt (H ++ [.frame] ++ [.list [.ref hd.a]] ++ [.list (List.replicate 12 (.ref hd.a))]) rk hd (A ++ Z) ht ad ro hp:=h1'.app
 have q0:=SkG.at (p:=[]) h1'.sk
 rw [h.hh] at q0
 have l12:lenOf (.ref hd.lk) (H ++ [.frame] ++ [.list [.ref hd.a]])=some 12:=lenL q0.2 (Nat.le_of_ble_eq_true rfl)
 have st1:=ex_assign (x:=2) (call:=run thePrg (n + 4)) (s:=[some (.ref rk),some (.bytes (ik u sq kd)),none,none,none,none]) (ev_bin (ev_list (evs_cons (ev_av (x:=0) (n:=40) rfl h0.obj rfl rfl) evs_nil)) (ev_len (ev_attr (n:=38) (ev_av (x:=0) (n:=40) rfl h1'.obj rfl rfl) (attr_of q0.1 rfl rfl)) l12) (bop_rep get_end (by decide)))
 have htl:H.length ≤ (H ++ [O.frame] ++ [O.list [V.ref hd.a]]).length:=(pre1.trans pre1:H <+: _).length_le
 have p0:H <+: H ++ [O.frame] ++ [O.list [.ref hd.a]] ++ [O.list (List.replicate 12 (.ref hd.a))]:=(pre1.trans pre1).trans pre1
 have o0:(H ++ [O.frame] ++ [O.list [.ref hd.a]] ++ [O.list (List.replicate 12 (.ref hd.a))])[(H ++ [O.frame] ++ [O.list [.ref hd.a]]).length]?=some (.list (trF hd A ht)):=by rw [get_end,trF_top λx hx=>(h.hi x (List.mem_append_left _ hx)).2]
 generalize (H ++ [O.frame] ++ [O.list [V.ref hd.a]]).length=t at st1 htl o0
 generalize H ++ [O.frame] ++ [O.list [.ref hd.a]] ++ [O.list (List.replicate 12 (.ref hd.a))]=H1 at st1 h2' p0 o0
 obtain ⟨_,e,H',v3,v4,v5,rfl,p,o⟩:=ex_while (call:=run thePrg (n + 4)) (a:=.cmp .ge (.var 4) (.int 0)) (B:=.cons (.assign 5 (.idx (.attr (.var 3) 38) (.var 4))) (.cons (.ite (aheadT .lt 5) (.cons (.assign 3 (.var 5)) .nil) (.cons (.setidx (.var 2) (.var 4) (.var 3)) (.cons (.aug 4 .sub (.int 1)) .nil))) .nil))
  (λr=>Ex4 λH' v3 v4 v5=>And3 (r = .nx [some (.ref rk),some (.bytes (ik u sq kd)),some (.ref t),v3,v4,v5] H') (H <+: H') (H'[t]?=some (.list (trl hd A))))
  (WkI hd A (λm h=>And3 (m ≤ 12) (H <+: h) (h[t]?=some (.list (trF hd A m)))) λ_ cur m v5=>trE rk (ik u sq kd) t cur ((m:Nat) - 1) v5) (wk_cap h) (wk_start h rfl ⟨h.top.2,p0,o0⟩) (by
   rintro k e h' ⟨pre,cur,R,m,v5,rfl,⟨h12,p,o⟩,ea,h1,h2,rfl⟩
   have hh:=h.pre p
   cases m with
   | zero=>exact .inl ⟨h',tv_cmp (ev_var rfl) ev_int rfl,h',_,_,_,rfl,p,o⟩
   | succ l =>
    rw [int_pred]
    obtain ⟨q1,q2⟩:=hh.link (pre:=pre) (x:=cur) (s:=R ++ Z) (by rw [← List.cons_append,ea,List.append_assoc];rfl) (l:=l) h1
    have st:=ex_assign (x:=5) (call:=run thePrg (n + 4)) (s:=trE rk (ik u sq kd) t cur (l:Nat) v5) (ev_idx (ev_av (x:=3) (n:=38) rfl q1 rfl rfl) (ev_var (x:=4) rfl) q2)
    refine .inr ⟨h',tv_cmp (ev_var rfl) ev_int (ge_yes (Int.natCast_nonneg l)),?_⟩
    rcases ahead (l:=l) (R:=R) (Z:=Z) with ⟨r1,x,r2,rfl,g1,g2,g3⟩ | ⟨g1,g2⟩
    ·rw [g3] at st
     have hx:=mem_cut ea (List.mem_append_right r1 (.head r2))
     obtain ⟨h2',t',p2⟩:=tv_ahead (n:=n) (i:=5) hh hu hs hk (List.mem_append_left _ hx) (e:=put (trE rk (ik u sq kd) t cur (l:Nat) v5) 5 (.ref x.a)) rfl rfl rfl (op:=.lt) (λ_=>lt_yes (H:=[]) (hA x hx))
     exact ⟨_,exs_nx st (exs_nx (ex_ite_t t' (exs_nx (ex_assign (ev_var rfl)) exs_nil)) exs_nil),_,wk_lt,pre ++ cur :: r1,x,r2,l + 1,some (.ref x.a),by rw [int_pred];rfl,⟨h12,p.trans p2,get_pre p2 o⟩,by rw [ea,List.append_assoc];rfl,g2,λy hy=>h2 y (List.mem_append_right _ (.tail _ hy)),rfl⟩
    ·suffices fin:∃ h2',TV (run thePrg (n + 4)) (aheadT .lt 5) (put (trE rk (ik u sq kd) t cur (l:Nat) v5) 5 (nxt l (R ++ Z))) h' false h2'∧h' <+: h2' by
      obtain ⟨h2',t',p2⟩:=fin
      have o':=get_pre p2 o
      have sx:=setIdxL (i:=l) (v:=.ref cur.a) o' tr_cap (by unfold trF;rw [List.length_map,List.length_range];exact h12)
      rw [trF_set (lst_is ea h1 g1)] at sx
      exact ⟨_,exs_nx st (exs_nx (ex_ite_f t' (exs_nx (ex_setidx (ev_var rfl) (ev_var rfl) (ev_var rfl) sx) (exs_nx (ex_aug (v:=.int ((l:Nat) - 1)) rfl ev_int rfl) exs_nil))) exs_nil),R.length + l,Nat.lt_succ_self _,pre,cur,R,l,_,rfl,⟨Nat.le_of_lt h12,pre_set (p.trans p2) htl,get_set_eq o'⟩,ea,Nat.le_of_lt h1,g1,rfl⟩
     rcases g2 with g2 | ⟨z,hz,g2⟩
     ·exact ⟨h',tv_none (congrArg some g2),List.prefix_refl _⟩
     ·exact tv_ahead (n:=n) (i:=5) hh hu hs hk (List.mem_append_right _ hz) (e:=put (trE rk (ik u sq kd) t cur (l:Nat) v5) 5 (nxt l (R ++ Z))) rfl rfl (congrArg some g2) (op:=.lt) (λ_=>lt_no (H:=[]) (Int.not_lt.mp (hZ z hz))))
 exact ⟨t,H',run_ret (D:=⟨2,6,b_SkipList_towers_before,[]⟩) rfl rfl rfl (exs_nx st1 (exs_nx (ex_assign (ev_av rfl h2'.obj rfl rfl)) (exs_nx (ex_assign (ev_bin (ev_av rfl h2'.obj rfl rfl) ev_int rfl)) (exs_nx e (exs_val (ev_var rfl)))))),p,htl,o⟩
theorem tr_head (h:SkAt H rk hd (A ++ Z) ht ad ro hp) {t:Nat} (o:H[t]?=some (.list (trl hd A))):∃ x,And3 (getIdx (.ref t) (.int 0) H=some (.ref x.a)) (H[x.a]?=some (twO x)) (getIdx (.ref x.lk) (.int 0) H=some (nxt 0 Z)):=by
 obtain ⟨pre,x,R,e,h1,h2,h3⟩:=lst_at (l:=0) (d:=hd) (A:=A) (by rw [h.hh];decide)
 obtain ⟨q1,q2⟩:=h.link (pre:=pre) (x:=x) (s:=R ++ Z) (by rw [← List.cons_append,e,List.append_assoc];rfl) (l:=0) h1
 rw [nxt_low h2] at q2
 exact ⟨x,idxL (i:=0) o tr_cap rfl ((map_get (by decide)).trans (by rw [if_pos (Nat.le_refl 0),h3])),q1,q2⟩
theorem c_seek (h:SkAt H rk hd (A ++ Z) ht ad ro hp) (hu:u.length < 1000) (hs:sq < 72057594037927936) (hk:kd < 256) (hA:∀ x ∈ A,cmpT x u sq kd < 0) (hZ:∀ x ∈ Z,¬ cmpT x u sq kd < 0):Pv (run thePrg (n + 6) 28 [.ref rk,.bytes (ik u sq kd)] H) (nxt 0 Z) H:=by
 obtain ⟨t,H',e,p,_,o⟩:=c_trail (n:=n) (h.app (G:=[.frame])) hu hs hk hA hZ
 obtain ⟨x,q0,q1,q2⟩:=tr_head ((h.app (G:=[.frame])).pre p) o
 exact pv_ret (D:=⟨2,2,b_SkipList_seek_tower,[]⟩) rfl rfl rfl p (exs_val (ev_idx (ev_attr (ev_idx (ev_meth (ev_var rfl) (meth_at (get_app h.obj) rfl rfl) (evs_cons (ev_var rfl) evs_nil) e) ev_int q0) (attr_of q1 rfl rfl)) ev_int q2))
end
theorem ne_kind {h:Hp} {i j c:Nat} {fs:List (Nat × V)} {l:List V} (a:h[i]?=some (.inst c fs)) (b:h[j]?=some (.list l)):i ≠ j:=λe=>by rw [e,b] at a;cases a
theorem nd_mid {pre S:List Tw} {y z:Tw} (nd:((pre ++ y :: S).map (·.lk)).Nodup) (hz:z ∈ pre ++ S):z.lk ≠ y.lk:=λe=>by
 rw [(List.perm_middle.map _).nodup_iff,List.map_cons,List.nodup_cons] at nd
 exact nd.1 (e ▸ List.mem_map_of_mem (f:=(·.lk)) hz)
theorem SkG.lkAt {H:Hp} {f:Nat→List Tw→V} {L:List Tw} (h:SkG H f L) {y:Tw} (hy:y ∈ L):H[y.a]?=some (twO y)∧∃ l,H[y.lk]?=some (.list l):=by
 obtain ⟨p,s,rfl⟩:=List.append_of_mem hy
 exact ⟨(SkG.at h).1,_,(SkG.at h).2⟩
theorem SkG.keep {H H':Hp} {f:Nat→List Tw→V} {L:List Tw} {p q:Nat} {lp lq:List V} (h:SkG H f L) (k:∀ i o,H[i]?=some o→i ≠ p→i ≠ q→H'[i]?=some o) (hp:H[p]?=some (.list lp)) (hq:H[q]?=some (.list lq)) (hl:∀ z ∈ L,z.lk ≠ p∧z.lk ≠ q):SkG H' f L :=
 h.mono (λz hz o e=>by
  have a:=(h.lkAt hz).1
  exact k _ _ e (ne_kind a hp) (ne_kind a hq)) λz hz o e=>k _ _ e (hl z hz).1 (hl z hz).2
theorem if_step {l k:Nat} (h:l ≠ k) (a b:V):(if l < k then a else b)=if l < k + 1 then a else b:=by
 by_cases q:l < k
 ·rw [if_pos q,if_pos (Nat.lt_succ_of_lt q)]
 ·rw [if_neg q,if_neg λz=>q (Nat.lt_of_le_of_ne (Nat.le_of_lt_succ z) h)]
noncomputable def hgt (ad:Nat):Nat:=[1,2,1,3,1,2,1,4].getD (ad % 8) 1
theorem hgt_b (ad:Nat):1 ≤ hgt ad∧hgt ad ≤ 4:=(show ∀ k:Fin 8,1 ≤ [1,2,1,3,1,2,1,4].getD k.1 1∧[1,2,1,3,1,2,1,4].getD k.1 1 ≤ 4 by decide) ⟨ad % 8,Nat.mod_lt _ (by decide)⟩
theorem hgt_get (ad:Nat):([.int 1,.int 2,.int 1,.int 3,.int 1,.int 2,.int 1,.int 4]:List V)[ad % 8]?=some (.int (hgt ad)) :=
 (show ∀ k:Fin 8,([.int 1,.int 2,.int 1,.int 3,.int 1,.int 2,.int 1,.int 4]:List V)[k.1]?=some (.int (([1,2,1,3,1,2,1,4].getD k.1 1:Nat):Int)) by decide) ⟨ad % 8,Nat.mod_lt _ (by decide)⟩
theorem nat_small {n:Nat} (h:n ≤ 2000000):isSmall (n:Int)=true:=Bool.and_eq_true_iff.mpr ⟨decide_eq_true (Int.lt_of_lt_of_le (by decide) (Int.natCast_nonneg n)),decide_eq_true (Int.lt_of_le_of_lt (Int.ofNat_le.mpr h) (by decide))⟩
theorem rng_small {a b:Nat} {c:Int} (ha:a ≤ 2000000) (hb:b ≤ 2000000) (hc:(decide (0 < c) && decide (c < 1073741824))=true):rangeOk a b c=true:=by
 unfold rangeOk
 rw [nat_small ha,nat_small hb];exact hc
theorem range_ok {n:Nat} (h:n ≤ 1000000):rangeOk 0 n 1=true:=rng_small (a:=0) (Nat.zero_le _) (Nat.le_trans h (by decide)) rfl
theorem range_cnt (n:Nat):rangeCount 0 n 1=n:=by
 unfold rangeCount
 by_cases q:(0:Int) < n
 ·rw [if_pos q];lia
 ·rw [if_neg q];lia
theorem rg0 (t:Nat):(0:Int) + 1 * (t:Nat)=(t:Nat):=by rw [Int.one_mul,Int.zero_add]
section
variable {H:Hp} {rk:Nat} {hd:Tw} {tw:List Tw} {ht ad ro hp:Nat} {n sq kd i:Nat} {u v:List UInt8} {A Z:List Tw}
theorem c_towerInit {k:List UInt8} {hg:Nat} (hb:(hg:Int) < capL) {x:Tw} (e1:x.key=k) (e2:x.val=v) (e3:x.lk=H.length + 3):run thePrg (n + 1) 23 [.ref H.length,.bytes k,.bytes v,.int hg] (H ++ [.inst 15 []]) = .val .none (H ++ [twO x,.frame,.list [.none],.list (List.replicate hg .none)]):=by
 have e:H ++ [O.inst 15 []] ++ [O.frame]=H ++ .inst 15 [] :: [.frame]:=List.append_assoc ..
 have h3:∀ {fs:List (Nat × V)},EV (run thePrg n) (.bin .mul (.list (.cons .none .nil)) (.var 3)) [some (.ref H.length),some (.bytes k),some (.bytes v),some (.int hg)] (H ++ .inst 15 fs :: [.frame]) (.ref (H.length + 3)) (H ++ .inst 15 fs :: [.frame,.list [.none],.list (List.replicate hg .none)]):=fun {fs}=>by
  have:=ev_bin (call:=run thePrg n) (s:=[some (.ref H.length),some (.bytes k),some (.bytes v),some (.int hg)]) (H:=H ++ .inst 15 fs :: [.frame]) (ev_list (evs_cons ev_none evs_nil)) (ev_var (x:=3) rfl) (bop_rep get_end hb)
  rwa [len1,List.length_append,List.append_assoc,List.append_assoc] at this
 have h4:O.inst 15 (setF 38 (.ref (H.length + 3)) (setF 37 (.bytes v) (setF 36 (.bytes k) [])))=twO x:=by unfold twO;rw [e1,e2,e3];rfl
 rw [← h4]
 refine run_nx (D:=⟨4,4,b_Tower_init,[]⟩) (e:=[some (.ref H.length),some (.bytes k),some (.bytes v),some (.int hg)]) rfl rfl rfl ?_
 rw [e]
 exact exs_nx (ex_sm (ev_var rfl) rfl rfl (by decide)) (exs_nx (ex_sm (ev_var rfl) rfl rfl (Nat.le_of_ble_eq_true rfl)) (exs_nx (ex_sm h3 rfl rfl (Nat.le_of_ble_eq_true rfl)) exs_nil))
theorem trl_get {k:Nat} {y:Tw} (h:k < 12) (h3:lst k hd A=y):(trl hd A)[k]?=some (.ref y.a):=by unfold trl trF;rw [map_get h,if_pos (Nat.zero_le k),h3]
noncomputable def fk (x:Tw) (Z:List Tw) (k l:Nat) (s:List Tw):V:=if l < k then nxt l (s ++ x :: Z) else nxt l (s ++ Z)
noncomputable def gk (x:Tw) (Z:List Tw) (k:Nat):List V:=(List.range x.ht).map λl=>if l < k then nxt l Z else .none
structure InsI (H:Hp) (hd:Tw) (A Z:List Tw) (x:Tw) (k:Nat) (h:Hp):Prop where
 len:h.length=H.length
 skA:SkG h (fk x Z k) (hd :: A)
 skZ:SkG h nxt Z
 ox:h[x.a]?=some (twO x)
 lx:h[x.lk]?=some (.list (gk x Z k))
 pr:∀ i o,H[i]?=some o→i ≠ x.lk→(∀ y ∈ hd :: A,i ≠ y.lk)→h[i]?=some o
theorem gk_set {x:Tw} {k:Nat}:(gk x Z k).set k (nxt k Z)=gk x Z (k + 1):=by
 unfold gk
 rw [map_set]
 refine List.map_congr_left λi _=>?_
 by_cases q:i=k
 ·subst q;rw [if_pos rfl,if_pos (Nat.lt_succ_self _)]
 ·rw [if_neg q,if_step q]
theorem InsI.step {x y:Tw} {pre R:List Tw} {k:Nat} {h:Hp} (s:InsI H hd A Z x k h) (nd:(x.lk :: ((hd :: A) ++ Z).map (·.lk)).Nodup) (hk:k < x.ht) (e:hd :: A=pre ++ y :: R) (h1:k < y.ht) (h2:∀ z ∈ R,z.ht ≤ k) :
  InsI H hd A Z x (k + 1) ((h.set x.lk (.list (gk x Z (k + 1)))).set y.lk (.list (((List.range y.ht).map λl=>fk x Z k l R).set k (.ref x.a)))):=by
 have q:=SkG.at (e ▸ s.skA)
 rw [List.nodup_cons] at nd
 have hy:y ∈ hd :: A:=e ▸ List.mem_append_right _ (.head _)
 have nx:∀ z ∈ (hd :: A) ++ Z,z.lk ≠ x.lk:=λz hz c=>nd.1 (c ▸ List.mem_map_of_mem (f:=(·.lk)) hz)
 have ny:∀ z ∈ pre ++ (R ++ Z),z.lk ≠ y.lk:=λz hz=>nd_mid (by rw [← List.cons_append,← List.append_assoc,← e];exact nd.2) hz
 have nyx:=nx y (List.mem_append_left _ hy)
 have ch:∀ i o,h[i]?=some o→i ≠ x.lk→i ≠ y.lk→((h.set x.lk (.list (gk x Z (k + 1)))).set y.lk (.list (((List.range y.ht).map λl=>fk x Z k l R).set k (.ref x.a))))[i]?=some o:=λi o q a b=>get_set_ne (get_set_ne q a) b
 refine ⟨by rw [List.length_set,List.length_set];exact s.len,?_,s.skZ.keep ch s.lx q.2 λz hz=>⟨nx z (List.mem_append_right _ hz),ny z (List.mem_append_right _ (List.mem_append_right _ hz))⟩,ch _ _ s.ox (ne_kind s.ox s.lx) (ne_kind s.ox q.2),get_set_ne (get_set_eq s.lx) (Ne.symm nyx),λi o qo a b=>ch i o (s.pr i o qo a b) a (b y hy)⟩
 have sk:=s.skA
 rw [e] at sk ⊢
 obtain ⟨sa,_,sc⟩:=SkG.split.mp sk
 have mp:∀ z ∈ pre,z ∈ hd :: A:=λz hz=>e ▸ List.mem_append_left _ hz
 have mR:∀ z ∈ R,z ∈ hd :: A:=λz hz=>e ▸ List.mem_append_right _ (.tail _ hz)
 refine SkG.split.mpr ⟨(sa.keep ch s.lx q.2 λz hz=>⟨nx z (List.mem_append_left _ (mp z hz)),ny z (List.mem_append_left _ hz)⟩).congr λp z t l e5 hl=>?_,⟨ch _ _ q.1 (ne_kind q.1 s.lx) (ne_kind q.1 q.2),?_⟩,
  (sc.keep ch s.lx q.2 λz hz=>⟨nx z (List.mem_append_left _ (mR z hz)),ny z (List.mem_append_right _ (List.mem_append_left _ hz))⟩).congr λp z t l e5 hl=>?_⟩
 ·unfold fk
  by_cases c:l=k
  ·subst c
   rw [if_neg (Nat.lt_irrefl _),if_pos (Nat.lt_succ_self _)]
   exact nxt_tail ⟨y,List.mem_append_right _ (.head _),h1⟩
  ·exact if_step c _ _
 ·rw [get_set_eq (get_set_ne q.2 nyx),map_set]
  refine congrArg (λz=>some (O.list z)) (List.map_congr_left λl hl=>?_)
  unfold fk
  by_cases c:l=k
  ·subst c
   rw [if_pos rfl,if_pos (Nat.lt_succ_self _),nxt_hit h2 hk]
  ·rw [if_neg c];exact if_step c _ _
 ·have hz:=h2 z (by rw [e5];exact List.mem_append_right _ (.head _))
  unfold fk
  exact if_step (Nat.ne_of_lt (Nat.lt_of_lt_of_le hl hz)) _ _
theorem InsI.fin {x:Tw} {h:Hp} (s:InsI H hd A Z x x.ht h):SkG h nxt ((hd :: A) ++ x :: Z):=by
 refine SkG.split.mpr ⟨s.skA.congr λp z t l e hl=>?_,⟨s.ox,?_⟩,s.skZ⟩
 ·unfold fk
  by_cases q:l < x.ht
  ·rw [if_pos q]
  ·rw [if_neg q]
   rcases nxt_find l t with h | ⟨r1,y,r2,rfl,h1,h2⟩
   ·rw [nxt_low h,nxt_low h]
    exact (if_neg q).symm
   ·exact nxt_tail ⟨y,List.mem_append_right _ (.head _),h2⟩
 ·rw [s.lx]
  exact congrArg (λz=>some (O.list z)) (List.map_congr_left λl hl=>if_pos (List.mem_range.mp hl))
noncomputable def insLoop:S:=.forR 7 (.int 0) (.var 5) (.int 1) (.cons (.setidx (.attr (.var 6) 38) (.var 7) (.idx (.attr (.idx (.var 3) (.var 7)) 38) (.var 7))) (.cons (.setidx (.attr (.idx (.var 3) (.var 7)) 38) (.var 7) (.var 6)) .nil))
noncomputable def inE (s0 s1 s2 s4:Option V) (t hg a:Nat) (v:Option V):En:=[s0,s1,s2,some (.ref t),s4,some (.int hg),some (.ref a),v]
theorem ins_loop {call:CallF} {x:Tw} {t:Nat} {s0 s1 s2 s4:Option V} (hh:hd.ht=12) (hA:∀ y ∈ A,y.ht ≤ 12) (hx:x.ht ≤ 12) (nd:(x.lk :: ((hd :: A) ++ Z).map (·.lk)).Nodup)
  (sk:SkG H nxt ((hd :: A) ++ Z)) (ox:H[x.a]?=some (twO x)) (lx:H[x.lk]?=some (.list (List.replicate x.ht .none))) (tr:H[t]?=some (.list (trl hd A))) (hne:∀ y ∈ x :: (hd :: A),t ≠ y.lk) :
  Ends call insLoop (inE s0 s1 s2 s4 t x.ht x.a none) H λr=>Ex2 λH' v=>r = .nx (inE s0 s1 s2 s4 t x.ht x.a v) H'∧InsI H hd A Z x x.ht H':=by
 have x12:∀ y ∈ hd :: A,y.ht < capL:=λy hy=>Nat.lt_of_le_of_lt (by
  rcases List.mem_cons.mp hy with rfl | q
  ·exact Nat.le_of_eq hh
  ·exact hA y q) (by decide:12 < capL)
 refine ex_forR _ (λk e h=>∃ v,e=inE s0 s1 s2 s4 t x.ht x.a v∧InsI H hd A Z x k h) ev_int (ev_var rfl) ev_int (range_ok (Nat.le_trans hx (by decide))) ⟨none,rfl,rfl,(SkG.split.mp sk).1,(SkG.split.mp sk).2,ox,?_,λi o q _ _=>q⟩ ?_ ?_
 ·rw [lx]
  refine congrArg (λz=>some (O.list z)) (List.ext_getElem? λi=>?_)
  by_cases hi:i < x.ht
  ·rw [List.getElem?_replicate,if_pos hi];unfold gk;rw [map_get hi];rfl
  ·rw [List.getElem?_replicate,if_neg hi,List.getElem?_eq_none (by unfold gk;rw [List.length_map,List.length_range];exact Nat.not_lt.mp hi)]
 ·rintro k e h hk ⟨v,rfl,s⟩
  rw [range_cnt] at hk
  rw [rg0]
  obtain ⟨pre,y,R,e,h1,h2,h3⟩:=lst_at (l:=k) (d:=hd) (A:=A) (by rw [hh];exact Nat.lt_of_lt_of_le hk hx)
  have hy:y ∈ hd :: A:=e ▸ List.mem_append_right _ (.head _)
  have q:=SkG.at (e ▸ s.skA)
  have trh:=s.pr t _ tr (hne x (.head _)) λz hz=>hne z (.tail _ hz)
  have nyx:y.lk ≠ x.lk:=λc=>(List.nodup_cons.mp nd).1 (c ▸ List.mem_map_of_mem (f:=(·.lk)) (List.mem_append_left _ hy))
  have ga:∀ {h':Hp},h'[t]?=some (.list (trl hd A))→getIdx (.ref t) (.int k) h'=some (.ref y.a):=λo=>idxL (i:=k) o tr_cap rfl (trl_get (Nat.lt_of_lt_of_le hk hx) h3)
  have ly:((List.range y.ht).map λl=>fk x Z k l R).length < capL:=by rw [List.length_map,List.length_range];exact x12 y hy
  have gv:getIdx (.ref y.lk) (.int k) h=some (nxt k Z):=idxL (i:=k) q.2 ly rfl ((map_get h1).trans (congrArg some ((if_neg (Nat.lt_irrefl k)).trans (nxt_low h2))))
  have s1':=setIdxL (i:=k) (v:=nxt k Z) s.lx (by unfold gk;rw [List.length_map,List.length_range];exact Nat.lt_of_le_of_lt hx (by decide)) (by unfold gk;rw [List.length_map,List.length_range];exact hk)
  rw [gk_set] at s1'
  have o1:=get_set_ne (o':=O.list (gk x Z (k + 1))) q.1 (ne_kind q.1 s.lx)
  exact ⟨_,exs_nx (ex_setidx (ev_idx (ev_attr (n:=38) (ev_idx (ev_var (x:=3) rfl) (ev_var rfl) (ga trh)) (attr_of q.1 rfl rfl)) (ev_var rfl) gv) (ev_av rfl s.ox rfl rfl) (ev_var rfl) s1')
   (exs_nx (ex_setidx (ev_var rfl) (ev_attr (n:=38) (ev_idx (ev_var (x:=3) rfl) (ev_var rfl) (ga (get_set_ne trh (hne x (.head _))))) (attr_of o1 rfl rfl)) (ev_var rfl) (setIdxL (i:=k) (get_set_ne q.2 nyx) ly (by rw [List.length_map,List.length_range];exact h1))) exs_nil),_,rfl,s.step nd hk e h1 h2⟩
 ·rintro e h ⟨v,rfl,s⟩
  rw [range_cnt] at s
  exact ⟨h,v,rfl,s⟩
theorem SkG.ne_lk {H:Hp} {f:Nat→List Tw→V} {L:List Tw} (h:SkG H f L) {i:Nat} {o:O} (hi:H[i]?=some o) (ho:∀ l,o ≠ .list l):∀ y ∈ L,i ≠ y.lk:=λy hy e=>by
 obtain ⟨_,l,q⟩:=h.lkAt hy
 rw [e,q] at hi
 cases hi
 exact ho _ rfl
theorem mid_nodup {A Z:List Tw} {x:Tw} {f:Tw→Nat} (h:(A ++ Z).map f |>.Nodup) (hx:∀ y ∈ A ++ Z,f x ≠ f y):((A ++ x :: Z).map f).Nodup:=by
 rw [(List.perm_middle.map f).nodup_iff,List.map_cons,List.nodup_cons]
 refine ⟨λq=>?_,h⟩
 obtain ⟨y,hy,e⟩:=List.mem_map.mp q
 exact hx y hy e.symm
theorem mem_mid {A Z:List Tw} {x y:Tw} {P:Tw→Prop} (h:∀ y ∈ A ++ Z,P y) (hx:P x) (hy:y ∈ A ++ x :: Z):P y:=by
 rcases List.mem_cons.mp (List.perm_middle.mem_iff.mp hy) with rfl | q
 ·exact hx
 ·exact h y q
structure Ins (H H':Hp) (rk:Nat) (hd:Tw) (A Z:List Tw) (x:Tw) (u v:List UInt8) (sq kd ht ad ro hp:Nat):Prop where
 xu:x.u=u∧x.sq=sq∧x.kd=kd∧x.val=v
 sk:SkAt H' rk hd (A ++ x :: Z) ht ad ro hp
 xa:H.length ≤ x.a
 xl:H.length ≤ x.lk
 len:H.length ≤ H'.length
 pr:∀ i o,H[i]?=some o→i ≠ rk→(∀ y ∈ hd :: (A ++ Z),i ≠ y.lk)→H'[i]?=some o
noncomputable def icE (rk:Nat) (ky v:List UInt8) (t:Nat) (z:V) (v5 v6 v7:Option V):En:=[some (.ref rk),some (.bytes ky),some (.bytes v),some (.ref t),some z,v5,v6,v7]
noncomputable def skO (ro hp a ht ad:Nat):O:=.inst 16 [(39,.ref ro),(22,.ref hp),(40,.ref a),(41,.int ht),(42,.int ad)]
theorem ins_fin {H3 H4:Hp} {x:Tw} (h:SkAt H rk hd (A ++ Z) ht ad ro hp) (s:InsI H3 hd A Z x x.ht H4) (p:H <+: H3) (hu:u.length < 1000) (hs:sq < 72057594037927936) (hk:kd=0∨kd=1) (hl:(A ++ Z).length + 1 < 1000)
  (ex:x.u=u∧x.sq=sq∧x.kd=kd∧x.val=v) (ek:x.key=ik u sq kd) (eh:x.ht=hgt ad) (xa:H.length ≤ x.a) (xl:H.length ≤ x.lk):Ins H (H4.set rk (skO ro hp hd.a (max ht (hgt ad)) (ad + 1))) rk hd A Z x u v sq kd (max ht (hgt ad)) (ad + 1) ro hp:=by
 obtain ⟨rfl,rfl,rfl,rfl⟩:=ex
 have pr:∀ i o,H[i]?=some o→(∀ y ∈ hd :: (A ++ Z),i ≠ y.lk)→H4[i]?=some o:=λi o q a=>s.pr i o (get_pre p q) (λc=>absurd (lt_of_get q) (by rw [c];exact Nat.not_lt.mpr xl)) λy hy=>a y (List.mem_append_left (as:=hd :: A) Z hy)
 have pr2:∀ i o,H[i]?=some o→i ≠ rk→(∀ y ∈ hd :: (A ++ Z),i ≠ y.lk)→(H4.set rk (skO ro hp hd.a (max ht (hgt ad)) (ad + 1)))[i]?=some o:=λi o q c a=>get_set_ne (pr i o q a) c
 have ork:=pr rk _ h.obj (h.sk.ne_lk h.obj λ_ q=>nomatch q)
 have sk3:=s.fin
 have hlk:∀ y ∈ hd :: (A ++ Z),y.lk < H.length:=λy hy=>by obtain ⟨_,l,q⟩:=h.sk.lkAt hy;exact lt_of_get q
 obtain ⟨b1,b2⟩:=hgt_b ad
 have mx:=Nat.le_max_left ht (hgt ad)
 refine ⟨⟨rfl,rfl,rfl,rfl⟩,⟨get_set_eq ork,?_,?_,?_,h.hh,⟨Nat.le_trans h.top.1 mx,Nat.max_le.mpr ⟨h.top.2,Nat.le_trans b2 (by decide)⟩⟩,λy hy=>mem_mid (P:=λy=>1 ≤ y.ht∧y.ht ≤ max ht (hgt ad)) (λy hy=>⟨(h.hi y hy).1,Nat.le_trans (h.hi y hy).2 mx⟩) (by rw [eh];exact ⟨b1,Nat.le_max_right _ _⟩) hy,
  λy hy=>mem_mid h.key ⟨ek,hu,hs,hk⟩ hy,by rw [List.perm_middle.length_eq];exact hl,mid_nodup (A:=hd :: A) h.nd λy hy c=>absurd (hlk y hy) (by rw [← c];exact Nat.not_lt.mpr xl)⟩,xa,xl,by rw [List.length_set,s.len];exact p.length_le,pr2⟩
 ·obtain ⟨r2,o1,o2⟩:=h.ord
  exact ⟨r2,pr2 _ _ o1 (λc=>by rw [c,h.obj] at o1;cases o1) (h.sk.ne_lk o1 λ_ q=>nomatch q),pr2 _ _ o2 (λc=>by rw [c,h.obj] at o2;cases o2) (h.sk.ne_lk o2 λ_ q=>nomatch q)⟩
 ·exact pr2 _ _ h.hts (λc=>by have:=h.hts;rw [c,h.obj] at this;cases this) (h.sk.ne_lk h.hts λ_ q=>nomatch q)
 ·exact sk3.mono (λy hy o q=>get_set_ne q λc=>by have:=(sk3.lkAt hy).1;rw [c,ork] at this;cases this) λy hy o q=>get_set_ne q λc=>by
   obtain ⟨_,l,q⟩:=sk3.lkAt hy
   rw [c,ork] at q;cases q
theorem c_insert (h:SkAt H rk hd (A ++ Z) ht ad ro hp) (hu:u.length < 1000) (hs:sq < 72057594037927936) (hk:kd=0∨kd=1) (hl:(A ++ Z).length + 1 < 1000) (hA:∀ x ∈ A,cmpT x u sq kd < 0) (hZ:∀ x ∈ Z,0 < cmpT x u sq kd) :
  Ex2 λH' x=>run thePrg (n + 6) 26 [.ref rk,.bytes (ik u sq kd),.bytes v] H = .val .none H'∧Ins H H' rk hd A Z x u v sq kd (max ht (hgt ad)) (ad + 1) ro hp:=by
 have hk2:kd < 256:=by rcases hk with rfl | rfl <;> decide
 have h0:SkAt (H ++ [.frame]) rk hd (A ++ Z) ht ad ro hp:=h.app
 obtain ⟨t,H1,e1,p1,tl,o⟩:=c_trail (n:=n) h0 hu hs hk2 hA λx hx=>Int.not_lt.mpr (Int.le_of_lt (hZ x hx))
 have h1:=h0.pre p1
 obtain ⟨x0,q0,q1,q2⟩:=tr_head h1 o
 have st1:=ex_assign (x:=3) (call:=run thePrg (n + 5)) (s:=[some (.ref rk),some (.bytes (ik u sq kd)),some (.bytes v),none,none,none,none,none]) (ev_meth (n:=43) (ev_var (x:=0) rfl) (meth_at h0.obj rfl rfl) (evs_cons (ev_var (x:=1) rfl) evs_nil) e1)
 have st2:=ex_assign (x:=4) (call:=run thePrg (n + 5)) (s:=[some (.ref rk),some (.bytes (ik u sq kd)),some (.bytes v),some (.ref t),none,none,none,none]) (H:=H1) (ev_idx (ev_attr (n:=38) (ev_idx (ev_var (x:=3) rfl) ev_int q0) (attr_of q1 rfl rfl)) ev_int q2)
 obtain ⟨H2,st3,p2⟩:∃ H2,TV (run thePrg (n + 5)) (aheadT .eq 4) (icE rk (ik u sq kd) v t (nxt 0 Z) none none none) H1 false H2∧H1 <+: H2:=by
  rcases nxt_find 0 Z with q | ⟨r1,z,r2,rfl,g1,g2⟩
  ·have e0:nxt 0 Z = .none:=by have:=nxt_low (Z:=[]) q;rw [List.append_nil] at this;exact this
   exact ⟨H1,tv_none (congrArg some e0),List.prefix_refl _⟩
  ·have hz:z ∈ r1 ++ z :: r2:=List.mem_append_right _ (.head _)
   exact tv_ahead (n:=n + 1) (i:=4) h1 hu hs hk2 (List.mem_append_right A hz) (e:=icE rk (ik u sq kd) v t (nxt 0 (r1 ++ z :: r2)) none none none) rfl rfl (congrArg some (nxt_hit g1 g2)) (op:=.eq) λ_=>eq_no (H:=[]) λq=>Int.lt_irrefl _ (q ▸ hZ z hz)
 have h2:=h1.pre p2
 have o2:=get_pre p2 o
 have p02:H <+: H2:=(pre1.trans p1).trans p2
 obtain ⟨b1,b2⟩:=hgt_b ad
 have st4:=ex_assign (x:=5) (call:=run thePrg (n + 5)) (s:=icE rk (ik u sq kd) v t (nxt 0 Z) none none none) (H:=H2) (ev_idx (ev_av (x:=0) (n:=22) rfl h2.obj rfl rfl) (ev_bin (ev_av (x:=0) (n:=42) rfl h2.obj rfl rfl) (ev_len (ev_av (x:=0) (n:=22) rfl h2.obj rfl rfl) (lenT h2.hts (by decide))) (bop_mod (a:=ad) (b:=8) (by decide))) (idxT (i:=ad % 8) h2.hts (by decide) rfl (hgt_get ad)))
 obtain ⟨x,ex⟩:∃ x:Tw,x=⟨H2.length,H2.length + 3,hgt ad,ik u sq kd,v,u,sq,kd⟩:=⟨_,rfl⟩
 have xa:x.a=H2.length:=by rw [ex]
 have xl:x.lk=H2.length + 3:=by rw [ex]
 have xh:x.ht=hgt ad:=by rw [ex]
 have xu:x.u=u∧x.sq=sq∧x.kd=kd∧x.val=v:=by rw [ex];exact ⟨rfl,rfl,rfl,rfl⟩
 have xk:x.key=ik u sq kd:=by rw [ex]
 clear ex
 rw [← xh] at st4
 have st5:=ex_assign (x:=6) (ev_new (c:=15) (f:=23) (call:=run thePrg (n + 5)) (s:=icE rk (ik u sq kd) v t (nxt 0 Z) (some (.int x.ht)) none none) (as:=.cons (.var 1) (.cons (.var 2) (.cons (.var 5) .nil))) rfl (evs_cons (ev_var rfl) (evs_cons (ev_var rfl) (evs_cons (ev_var rfl) evs_nil))) (c_towerInit (n:=n + 4) (H:=H2) (hg:=x.ht) (by rw [xh];exact Int.ofNat_lt.mpr (Nat.lt_of_le_of_lt b2 (by decide))) xk xu.2.2.2 xl))
 rw [← xa] at st5
 have p3:H2 <+: H2 ++ [twO x,.frame,.list [.none],.list (List.replicate x.ht .none)]:=pre1
 have h3:=h2.pre p3
 have ox:(H2 ++ [twO x,.frame,.list [.none],.list (List.replicate x.ht .none)])[x.a]?=some (twO x):=by rw [xa];exact get_off 0 rfl
 have olk:(H2 ++ [twO x,.frame,.list [.none],.list (List.replicate x.ht .none)])[x.lk]?=some (.list (List.replicate x.ht .none)):=by rw [xl];exact get_off 3 rfl
 have hlk:∀ y ∈ hd :: (A ++ Z),y.lk < H.length:=λy hy=>by obtain ⟨_,l,q⟩:=h.sk.lkAt hy;exact lt_of_get q
 have tl2:t < H2.length:=lt_of_get o2
 have len02:=p02.length_le
 have hlen:H.length ≤ t:=Nat.le_trans (pre1:H <+: H ++ [.frame]).length_le tl
 have o3:=get_pre p3 o2
 generalize H2 ++ [twO x,.frame,.list [.none],.list (List.replicate x.ht .none)]=H3 at st5 p3 h3 ox olk o3
 obtain ⟨_,e,H4,v7,rfl,s⟩:=ins_loop (call:=run thePrg (n + 5)) (A:=A) (Z:=Z) (x:=x) (t:=t) (s0:=some (.ref rk)) (s1:=some (.bytes (ik u sq kd))) (s2:=some (.bytes v)) (s4:=some (nxt 0 Z)) h.hh (λy hy=>Nat.le_trans (h.hi y (List.mem_append_left _ hy)).2 h.top.2) (by rw [xh];exact Nat.le_trans b2 (by decide))
  (List.nodup_cons.mpr ⟨λq=>by
   obtain ⟨y,hy,e⟩:=List.mem_map.mp q
   exact Nat.lt_irrefl _ (Nat.lt_of_lt_of_le (e ▸ hlk y hy) (Nat.le_trans len02 (xl ▸ Nat.le_add_right _ _))),h.nd⟩) h3.sk ox olk o3 (λy hy=>by
   rcases List.mem_cons.mp hy with rfl | hy
   ·exact Nat.ne_of_lt (Nat.lt_of_lt_of_le tl2 (xl ▸ Nat.le_add_right _ _))
   ·exact Nat.ne_of_gt (Nat.lt_of_lt_of_le (hlk y (List.mem_append_left (as:=hd :: A) Z hy)) hlen))
 have F:=ins_fin h s (p02.trans p3) hu hs hk hl xu xk xh (Nat.le_trans len02 (Nat.le_of_eq xa.symm)) (Nat.le_trans len02 (xl ▸ Nat.le_add_right _ _))
 have ork:H4[rk]?=some (skO ro hp hd.a ht ad):=s.pr rk _ h3.obj (λc=>Nat.lt_irrefl _ (Nat.lt_of_lt_of_le (c ▸ lt_of_get h2.obj) (xl ▸ Nat.le_add_right _ _))) λy hy=>h3.sk.ne_lk h3.obj (λ_ q=>nomatch q) y (List.mem_append_left (as:=hd :: A) Z hy)
 have fin:∀ {H5:Hp},H5[rk]?=some (skO ro hp hd.a (max ht (hgt ad)) ad)→H5.set rk (skO ro hp hd.a (max ht (hgt ad)) (ad + 1))=H4.set rk (skO ro hp hd.a (max ht (hgt ad)) (ad + 1))→EX (run thePrg (n + 5)) (.ite (.cmp .gt (.var 5) (.attr (.var 0) 41)) (.cons (.setattr (.var 0) 41 (.var 5)) .nil) .nil) (inE (some (.ref rk)) (some (.bytes (ik u sq kd))) (some (.bytes v)) (some (nxt 0 Z)) t x.ht x.a v7) H4 (.nx (inE (some (.ref rk)) (some (.bytes (ik u sq kd))) (some (.bytes v)) (some (nxt 0 Z)) t x.ht x.a v7) H5) →
   run thePrg (n + 6) 26 [.ref rk,.bytes (ik u sq kd),.bytes v] H = .val .none (H4.set rk (skO ro hp hd.a (max ht (hgt ad)) (ad + 1))):=fun {H5} o5 e5 st6 =>
  run_nx (D:=⟨3,8,b_SkipList_insert,[]⟩) rfl rfl rfl (exs_nx st1 (exs_nx st2 (exs_no st3 (exs_nx st4 (exs_nx st5 (exs_nx e (exs_nx st6 (exs_nx (ex_augattr (v:=.int (ad + 1:Nat)) (ev_var rfl) (attr_of o5 rfl rfl) ev_int rfl (by rw [setAttr_of o5 rfl (Nat.le_of_ble_eq_true rfl)];exact congrArg some e5)) exs_nil))))))))
 refine ⟨_,x,?_,F⟩
 by_cases hg:ht < hgt ad
 ·have hm:=Nat.max_eq_right (Nat.le_of_lt hg)
  refine fin (get_set_eq ork) (List.set_set ..) (ex_ite_t (tv_cmp (ev_var rfl) (ev_av rfl ork rfl rfl) (gt_yes (xh ▸ Int.ofNat_lt.mpr hg))) (exs_nx (ex_setattr (ev_var rfl) (ev_var rfl) ?_) exs_nil))
  rw [hm,xh,setAttr_of ork rfl (Nat.le_of_ble_eq_true rfl)];rfl
 ·have hm:=Nat.max_eq_left (Nat.not_lt.mp hg)
  exact fin (by rw [hm];exact ork) rfl (ex_ite_f (tv_cmp (ev_var rfl) (ev_av rfl ork rfl rfl) (gt_no (xh ▸ Int.ofNat_le.mpr (Nat.not_lt.mp hg)))) exs_nil)
end
section
variable {H:Hp} {rk:Nat} {hd:Tw} {tw A Z:List Tw} {ht ad ro hp n sq kd:Nat} {u v:List UInt8}
theorem f_user (hu:u.length < 1000):Pv (run thePrg (n + 1) 16 [.bytes (ik u sq kd)] H) (.bytes u) H:=c_user_of hu
theorem f_ikey (hu:u.length < 1000) (hs:sq < 72057594037927936) (hk:kd=0∨kd=1):Pv (run thePrg (n + 3) 14 [.bytes u,.int sq,.int kd] H) (.bytes (ik u sq kd)) H:=c_make_ikey hu hs hk
theorem f_split (hu:u.length < 1000) (hs:sq < 72057594037927936) (hk:kd=0∨kd=1):Ex2 λr H'=>And3 (run thePrg (n + 4) 15 [.bytes (ik u sq kd)] H = .val (.ref r) H') (H <+: H') (H'[r]?=some (.tuple [.bytes u,.int sq,.int kd])):=c_split hu hs hk
theorem f_before (h:SkAt H rk hd (A ++ Z) ht ad ro hp) (hu:u.length < 1000) (hs:sq < 72057594037927936) (hk:kd < 256) (hA:∀ x ∈ A,cmpT x u sq kd < 0) (hZ:∀ x ∈ Z,¬ cmpT x u sq kd < 0):Pv (run thePrg (n + 5) 29 [.ref rk,.bytes (ik u sq kd)] H) (bk A) H:=c_before h hu hs hk hA hZ
theorem f_seek (h:SkAt H rk hd (A ++ Z) ht ad ro hp) (hu:u.length < 1000) (hs:sq < 72057594037927936) (hk:kd < 256) (hA:∀ x ∈ A,cmpT x u sq kd < 0) (hZ:∀ x ∈ Z,¬ cmpT x u sq kd < 0):Pv (run thePrg (n + 6) 28 [.ref rk,.bytes (ik u sq kd)] H) (nxt 0 Z) H:=c_seek h hu hs hk hA hZ
theorem f_last (h:SkAt H rk hd A ht ad ro hp):Pv (run thePrg (n + 1) 30 [.ref rk] H) (bk A) H:=c_last h
theorem f_first (h:SkAt H rk hd A ht ad ro hp):Pv (run thePrg (n + 1) 27 [.ref rk] H) (nxt 0 A) H:=c_first h
theorem f_insert (h:SkAt H rk hd (A ++ Z) ht ad ro hp) (hu:u.length < 1000) (hs:sq < 72057594037927936) (hk:kd=0∨kd=1) (hl:(A ++ Z).length + 1 < 1000) (hA:∀ x ∈ A,cmpT x u sq kd < 0) (hZ:∀ x ∈ Z,0 < cmpT x u sq kd) :
  Ex2 λH' x=>run thePrg (n + 6) 26 [.ref rk,.bytes (ik u sq kd),.bytes v] H = .val .none H'∧Ins H H' rk hd A Z x u v sq kd (max ht (hgt ad)) (ad + 1) ro hp:=c_insert h hu hs hk hl hA hZ
noncomputable def tabO (ro rk:Nat) (w:Int):O:=.inst 17 [(39,.ref ro),(44,.ref rk),(45,.int w)]
theorem f_add {rt:Nat} {w:Int} (ot:H[rt]?=some (tabO ro rk w)) (h:SkAt H rk hd (A ++ Z) ht ad ro hp) (hu:u.length < 1000) (hv:v.length < 1000) (hs:sq < 72057594037927936) (hk:(kd=0∧v = [])∨kd=1) (hl:(A ++ Z).length + 1 < 1000) (hA:∀ x ∈ A,cmpT x u sq kd < 0) (hZ:∀ x ∈ Z,0 < cmpT x u sq kd) :
  Ex3 λH' x w'=>And7 (run thePrg (n + 7) 32 [.ref rt,.int sq,.int kd,.bytes u,.bytes v] H = .val .none H') (H'[rt]?=some (tabO ro rk w')) (SkAt H' rk hd (A ++ x :: Z) (max ht (hgt ad)) (ad + 1) ro hp) ((x.u=u∧x.sq=sq∧x.kd=kd∧x.val=v)) (H.length ≤ x.a) (H.length ≤ x.lk) (H.length ≤ H'.length ∧
   (∀ i o,H[i]?=some o→i ≠ rt→i ≠ rk→(∀ y ∈ hd :: (A ++ Z),i ≠ y.lk)→H'[i]?=some o)):=by
 obtain ⟨H1,e1,p1⟩:=f_ikey (n:=n + 3) (H:=H ++ [.frame]) (kd:=kd) hu hs (by lia)
 have p01:H <+: H1:=pre1.trans p1
 obtain ⟨H2,x,e2,I⟩:=f_insert (n:=n) (v:=v) (kd:=kd) (h.pre p01) hu hs (by lia) hl hA hZ
 have o2:H2[rt]?=some (tabO ro rk w):=by
  have q:=get_pre p01 ot
  refine I.pr _ _ q (λc=>?_) ((h.pre p01).sk.ne_lk q λ_ q=>nomatch q)
  rw [c,(h.pre p01).obj] at q;cases q
 have cap:∀ l:List UInt8,l.length < 1000→l.length < capL:=λl q=>by unfold capL;exact Nat.lt_of_lt_of_le ‹_› (by decide)
 have hset:setAttr theFld (.ref rt) 45 (.int (w + ((u.length:Int) + (v.length:Int) + 13))) H2=some (H2.set rt (tabO ro rk (w + ((u.length:Int) + (v.length:Int) + 13)))):=setAttr_of o2 rfl (by exact Nat.le_add_left _ _)
 have ok:methOf thePrg (.ref rk) 46 (H ++ [.frame])=some 26:=meth_at (get_app h.obj) rfl rfl
 have rest:∀ kv:Option V,kv=some (.bytes v)→EXs (run thePrg (n + 6)) (.cons (.expr (.meth (.attr (.var 0) 44) 46 (.cons (.call 14 (.cons (.var 3) (.cons (.var 1) (.cons (.var 2) .nil)))) (.cons (.var 5) .nil)))) (.cons (.augattr (.var 0) 45 .add (.bin .add (.bin .add (.len (.var 3)) (.len (.var 5))) (.gint 47 13))) .nil))
   [some (.ref rt),some (.int sq),some (.int kd),some (.bytes u),some (.bytes v),kv] (H ++ [.frame]) (.nx [some (.ref rt),some (.int sq),some (.int kd),some (.bytes u),some (.bytes v),kv] (H2.set rt (tabO ro rk (w + ((u.length:Int) + (v.length:Int) + 13))))):=by
  rintro _ rfl
  exact exs_nx (ex_expr (ev_meth (ev_attr (ev_var rfl) (attr_of (get_app ot) rfl rfl)) ok (evs_cons (ev_call (evs_cons (ev_var rfl) (evs_cons (ev_var rfl) (evs_cons (ev_var rfl) evs_nil))) e1) (evs_cons (ev_var rfl) evs_nil)) e2) rfl)
   (exs_nx (ex_augattr (ev_var rfl) (attr_of o2 rfl rfl) (ev_bin (ev_bin (ev_len (ev_var rfl) (lenB (cap _ hu))) (ev_len (ev_var rfl) (lenB (cap _ hv))) rfl) ev_gint rfl) rfl hset) exs_nil)
 have body:EXs (run thePrg (n + 6)) b_MemTable_add [some (.ref rt),some (.int sq),some (.int kd),some (.bytes u),some (.bytes v),none] (H ++ [.frame]) (.nx [some (.ref rt),some (.int sq),some (.int kd),some (.bytes u),some (.bytes v),some (.bytes v)] (H2.set rt (tabO ro rk (w + ((u.length:Int) + (v.length:Int) + 13))))):=by
  refine exs_nx (ex_assign ev_bytes) ?_
  rcases hk with ⟨rfl,rfl⟩ | rfl
  ·exact exs_nx (ex_ite_f (tv_b (ev_cmp (ev_var rfl) ev_gint rfl)) exs_nil) (rest _ rfl)
  ·exact exs_nx (ex_ite_t (tv_b (ev_cmp (ev_var rfl) ev_gint rfl)) (exs_nx (ex_assign (ev_bytesOf_b (ev_var rfl))) exs_nil)) (rest _ rfl)
 refine ⟨_,x,_,run_nx (D:=⟨5,6,b_MemTable_add,[]⟩) rfl rfl rfl body,get_set_eq o2,?_,I.xu,?_,?_,?_,λi o q a b c=>get_set_ne (I.pr i o (get_pre p01 q) b c) a⟩
 ·have nl:=I.sk
  have ne:∀ i o,H2[i]?=some o→o ≠ tabO ro rk w→(H2.set rt (tabO ro rk (w + ((u.length:Int) + (v.length:Int) + 13))))[i]?=some o:=λi o q c=>get_set_ne q λe=>c (by rw [e,o2] at q;exact (Option.some.inj q).symm)
  obtain ⟨r2,o1,o3⟩:=nl.ord
  exact ⟨ne _ _ nl.obj (λq=>nomatch q),⟨r2,ne _ _ o1 (λq=>nomatch q),ne _ _ o3 (λq=>nomatch q)⟩,ne _ _ nl.hts (λq=>nomatch q),nl.sk.mono (λy hy o q=>ne _ _ q λc=>by rw [(nl.sk.lkAt hy).1,c] at q;cases q) (λy hy o q=>ne _ _ q λc=>by
   obtain ⟨_,l,z⟩:=nl.sk.lkAt hy
   rw [z,c] at q;cases q),nl.hh,nl.top,nl.hi,nl.key,nl.len,nl.nd⟩
 ·have:=I.xa;have:=p01.length_le;exact Nat.le_trans ‹_› ‹_›
 ·have:=I.xl;have:=p01.length_le;exact Nat.le_trans ‹_› ‹_›
 ·have:=I.len;have:=p01.length_le;rw [List.length_set];exact Nat.le_trans ‹_› ‹_›
noncomputable def getT (u:List UInt8):List Tw→List V
 | []=>[.bool false,.int 0,.bytes []]
 | z :: _=>if z.u=u then [.bool true,.int z.kd,.bytes z.val] else [.bool false,.int 0,.bytes []]
theorem f_get {rt:Nat} {w:Int} (ot:H[rt]?=some (tabO ro rk w)) (h:SkAt H rk hd (A ++ Z) ht ad ro hp) (hu:u.length < 1000) (hs:sq < 72057594037927936) (hA:∀ x ∈ A,cmpT x u sq 1 < 0) (hZ:∀ x ∈ Z,¬ cmpT x u sq 1 < 0) :
  Ex2 λr H'=>And3 (run thePrg (n + 7) 33 [.ref rt,.bytes u,.int sq] H = .val (.ref r) H') (H <+: H') (H'[r]?=some (.tuple (getT u Z))):=by
 obtain ⟨H1,e1,p1⟩:=f_ikey (n:=n + 3) (H:=H ++ [.frame]) (kd:=1) hu hs (.inr rfl)
 have p01:H <+: H1:=pre1.trans p1
 obtain ⟨H2,e2,p2⟩:=f_seek (n:=n) (h.pre p01) hu hs (by exact Nat.le_add_left _ _) hA hZ
 have p02:=p01.trans p2
 have st3:EX (run thePrg (n + 6)) (.assign 3 (.meth (.attr (.var 0) 44) 48 (.cons (.call 14 (.cons (.var 1) (.cons (.var 2) (.cons (.gint 49 1) .nil)))) .nil))) [some (.ref rt),some (.bytes u),some (.int sq),none,none,none,none] (H ++ [.frame])
   (.nx [some (.ref rt),some (.bytes u),some (.int sq),some (nxt 0 Z),none,none,none] H2) :=
  ex_assign (ev_meth (ev_attr (ev_var rfl) (attr_of (get_app ot) rfl rfl)) (meth_at (get_app h.obj) rfl rfl) (evs_cons (ev_call (evs_cons (ev_var rfl) (evs_cons (ev_var rfl) (evs_cons ev_gint evs_nil))) e1) evs_nil) e2)
 have fin:∀ {x:Nat} {H':Hp},EXs (run thePrg (n + 6)) b_MemTable_get [some (.ref rt),some (.bytes u),some (.int sq),none,none,none,none] (H ++ [.frame]) (.ret (.ref x) H')→H <+: H'→H'[x]?=some (.tuple (getT u Z))→Ex2 λr H'=>And3 (run thePrg (n + 7) 33 [.ref rt,.bytes u,.int sq] H = .val (.ref r) H') (H <+: H') (H'[r]?=some (.tuple (getT u Z))) :=
  λhb p q=>⟨_,_,run_ret (D:=⟨3,7,b_MemTable_get,[]⟩) rfl rfl rfl hb,p,q⟩
 cases Z with
 | nil =>
  refine fin (exs_nx st3 (exs_ret (ex_ite_t (tv_b (ev_isNone (ev_var rfl) rfl)) (exs_ret (ex_ret (ev_tuple (evs_cons ev_bool (evs_cons ev_gint (evs_cons ev_bytes evs_nil))))))))) (p02.trans pre1) (by simp [getT])
 | cons z Z =>
  have hz:z ∈ A ++ z :: Z:=by exact List.mem_append_right _ (.head _)
  obtain ⟨k1,k2,k3,k4⟩:=h.key z hz
  obtain ⟨q1,_⟩:=(h.pre p02).sk.lkAt (y:=z) (.tail _ hz)
  have nz:nxt 0 (z :: Z) = .ref z.a:=if_pos (h.hi z hz).1
  rw [nz] at st3
  obtain ⟨r,H3,e3,p3,q3⟩:=f_split (n:=n + 2) (H:=H2) k2 k3 k4
  rw [← k1] at e3
  have p03:=p02.trans p3
  have un:EX (run thePrg (n + 6)) (.unpack [4,5,6] (.call 15 (.cons (.attr (.var 3) 36) .nil))) [some (.ref rt),some (.bytes u),some (.int sq),some (.ref z.a),none,none,none] H2
    (.nx [some (.ref rt),some (.bytes u),some (.int sq),some (.ref z.a),some (.bytes z.u),some (.int z.sq),some (.int z.kd)] H3) :=
   ex_unpack (l:=[.bytes z.u,.int z.sq,.int z.kd]) (ev_call (evs_cons (ev_attr (ev_var rfl) (attr_of q1 rfl rfl)) evs_nil) e3) (by unfold tupOf;dsimp only;rw [q3]) rfl
  have i0:EX (run thePrg (n + 6)) (.ite (.isNone (.var 3)) (.cons (.ret (.tuple (.cons (.bool false) (.cons (.gint 9 0) (.cons (.bytes []) .nil))))) .nil) .nil) [some (.ref rt),some (.bytes u),some (.int sq),some (.ref z.a),none,none,none] H2 (.nx [some (.ref rt),some (.bytes u),some (.int sq),some (.ref z.a),none,none,none] H2) :=
   ex_ite_f (tv_b (ev_isNone (ev_var rfl) rfl)) exs_nil
  have cmp:∀ b:Bool,(z.u == u)=b→TV (run thePrg (n + 6)) (.cmp .ne (.var 4) (.var 1)) [some (.ref rt),some (.bytes u),some (.int sq),some (.ref z.a),some (.bytes z.u),some (.int z.sq),some (.int z.kd)] H3 (!b) H3:=λb hb=>tv_b (ev_cmp (ev_var rfl) (ev_var rfl) (by rw [← hb];rfl))
  by_cases c:z.u=u
  ·refine fin (exs_nx st3 (exs_nx i0 (exs_nx un (exs_nx (ex_ite_f (cmp true (beq_iff_eq.mpr c)) exs_nil) (exs_ret (ex_ret (ev_tuple (evs_cons ev_bool (evs_cons (ev_var rfl) (evs_cons (ev_attr (ev_var rfl) (attr_of (get_pre p3 q1) rfl rfl)) evs_nil)))))))))) (p03.trans pre1) ?_
   rw [show getT u (z :: Z)=_ from if_pos c];simp
  ·refine fin (exs_nx st3 (exs_nx i0 (exs_nx un (exs_ret (ex_ite_t (cmp false (beq_eq_false_iff_ne.mpr c)) (exs_ret (ex_ret (ev_tuple (evs_cons ev_bool (evs_cons ev_gint (evs_cons ev_bytes evs_nil)))))))))))  (p03.trans pre1) ?_
   rw [show getT u (z :: Z)=_ from if_neg c];simp
end
noncomputable def isIt:O→Bool
 | .inst c _=>c == 18 || c == 19
 | _=>false
noncomputable def Ko (H H':Hp):Prop:=H.length ≤ H'.length∧∀ (i:Nat) (o:O),H[i]?=some o→isIt o=false→H'[i]?=some o
theorem Ko.trans {H H' H'':Hp} (a:Ko H H') (b:Ko H' H''):Ko H H'':=⟨Nat.le_trans a.1 b.1,λi o q z=>b.2 i o (a.2 i o q z) z⟩
theorem Ko.pre {H H':Hp} (p:H <+: H'):Ko H H':=⟨p.length_le,λ_ _ q _=>get_pre p q⟩
theorem Ko.set {H:Hp} {i:Nat} {o o':O} (h:H[i]?=some o) (ho:isIt o=true):Ko H (H.set i o'):=⟨by simp,λj q hq z=>get_set_ne hq λe=>by
 rw [e,h] at hq
 cases hq
 rw [ho] at z;cases z⟩
theorem SkAt.ko {H H':Hp} {rk:Nat} {hd:Tw} {tw:List Tw} {ht ad ro hp:Nat} (p:Ko H H') (h:SkAt H rk hd tw ht ad ro hp):SkAt H' rk hd tw ht ad ro hp:=by
 obtain ⟨r2,o1,o2⟩:=h.ord
 exact ⟨p.2 _ _ h.obj rfl,⟨r2,p.2 _ _ o1 rfl,p.2 _ _ o2 rfl⟩,p.2 _ _ h.hts rfl,h.sk.mono (λy hy o q=>p.2 _ _ q (by rw [(h.sk.lkAt hy).1] at q;cases q;rfl)) (λy hy o q=>p.2 _ _ q (by
  obtain ⟨_,l,z⟩:=h.sk.lkAt hy
  rw [z] at q;cases q;rfl)),h.hh,h.top,h.hi,h.key,h.len,h.nd⟩
noncomputable def itO (rk:Nat) (p:V):O:=.inst 18 [(44,.ref rk),(5,p)]
noncomputable def uiO (ri:Nat) (sq g:Int) (good:Bool) (k v:List UInt8):O:=.inst 19 [(54,.ref ri),(1,.int sq),(55,.none),(56,.none),(57,.int g),(59,.bool good),(60,.bytes k),(61,.bytes v)]
noncomputable def Sd (tw:List Tw):Prop:=∀ A x Z,tw=A ++ x :: Z→(∀ y ∈ A,cmpT y x.u x.sq x.kd < 0)∧∀ z ∈ x :: Z,¬ cmpT z x.u x.sq x.kd < 0
section
variable {H:Hp} {rk ri rj:Nat} {hd:Tw} {tw A Z:List Tw} {x:Tw} {ht ad ro hp n:Nat} {p:V}
theorem m_valid (h:H[ri]?=some (itO rk p)):Pv (run thePrg (n + 1) 36 [.ref ri] H) (.bool (p != .none)) H :=
 ⟨_,run_ret (D:=⟨1,1,b_MemIter_valid,[]⟩) rfl rfl rfl (exs_ret (ex_ret (ev_notNone (ev_attr (ev_var rfl) (attr_of (get_app h) rfl rfl)) rfl))),pre1⟩
theorem m_tower {a:Nat} (h:H[ri]?=some (itO rk (.ref a))):run thePrg (n + 1) 40 [.ref ri] H = .val (.ref a) (H ++ [.frame]) :=
 run_ret (D:=⟨1,1,b_MemIter_tower,[]⟩) rfl rfl rfl (exs_nx (ex_ite_f (tv_b (ev_isNone (ev_attr (ev_var rfl) (attr_of (get_app h) rfl rfl)) rfl)) exs_nil) (exs_ret (ex_ret (ev_attr (ev_var rfl) (attr_of (get_app h) rfl rfl)))))
theorem m_key (h:H[ri]?=some (itO rk (.ref x.a))) (hx:H[x.a]?=some (twO x)):Pv (run thePrg (n + 2) 43 [.ref ri] H) (.bytes x.key) H :=
 ⟨_,run_ret (D:=⟨1,1,b_MemIter_key,[]⟩) rfl rfl rfl (exs_ret (ex_ret (ev_attr (ev_meth (ev_var rfl) (meth_at (get_app h) rfl rfl) evs_nil (m_tower (get_app h))) (attr_of (get_app (get_app hx)) rfl rfl)))),by rw [List.append_assoc];exact pre1⟩
theorem m_value (h:H[ri]?=some (itO rk (.ref x.a))) (hx:H[x.a]?=some (twO x)):Pv (run thePrg (n + 2) 44 [.ref ri] H) (.bytes x.val) H :=
 ⟨_,run_ret (D:=⟨1,1,b_MemIter_value,[]⟩) rfl rfl rfl (exs_ret (ex_ret (ev_attr (ev_meth (ev_var rfl) (meth_at (get_app h) rfl rfl) evs_nil (m_tower (get_app h))) (attr_of (get_app (get_app hx)) rfl rfl)))),by rw [List.append_assoc];exact pre1⟩
theorem moved {c:CRes} {H1:Hp} {q:V} (h:H[ri]?=some (itO rk p)) (e:c = .val .none (H1.set ri (itO rk q))) (k:H <+: H1):∃ H',And4 (c = .val .none H') (Ko H H') (H'[ri]?=some (itO rk q)) (∀ j o,H[j]?=some o→j ≠ ri→H'[j]?=some o) :=
 ⟨_,e,(Ko.pre k).trans (Ko.set (get_pre k h) rfl),get_set_eq (get_pre k h),λj o hj hne=>get_set_ne (get_pre k hj) hne⟩
theorem m_first (s:SkAt H rk hd tw ht ad ro hp) (h:H[ri]?=some (itO rk p)):∃ H',And4 (run thePrg (n + 2) 37 [.ref ri] H = .val .none H') (Ko H H') (H'[ri]?=some (itO rk (nxt 0 tw))) (∀ j o,H[j]?=some o→j ≠ ri→H'[j]?=some o):=by
 obtain ⟨H1,e1,p1⟩:=f_first (n:=n) (s.app (G:=[.frame]))
 exact moved h (run_nx (D:=⟨1,1,b_MemIter_seek_first,[]⟩) rfl rfl rfl (exs_nx (ex_setattr (ev_meth (ev_attr (ev_var rfl) (attr_of (get_app h) rfl rfl)) (meth_at (get_app s.obj) rfl rfl) evs_nil e1) (ev_var rfl) (setAttr_of (get_pre p1 (get_app h)) rfl (by exact Nat.le_add_left _ _))) exs_nil)) (pre1.trans p1)
theorem m_last (s:SkAt H rk hd tw ht ad ro hp) (h:H[ri]?=some (itO rk p)):∃ H',And4 (run thePrg (n + 2) 38 [.ref ri] H = .val .none H') (Ko H H') (H'[ri]?=some (itO rk (bk tw))) (∀ j o,H[j]?=some o→j ≠ ri→H'[j]?=some o):=by
 obtain ⟨H1,e1,p1⟩:=f_last (n:=n) (s.app (G:=[.frame]))
 exact moved h (run_nx (D:=⟨1,1,b_MemIter_seek_last,[]⟩) rfl rfl rfl (exs_nx (ex_setattr (ev_meth (ev_attr (ev_var rfl) (attr_of (get_app h) rfl rfl)) (meth_at (get_app s.obj) rfl rfl) evs_nil e1) (ev_var rfl) (setAttr_of (get_pre p1 (get_app h)) rfl (by exact Nat.le_add_left _ _))) exs_nil)) (pre1.trans p1)
theorem m_step (s:SkAt H rk hd (A ++ x :: Z) ht ad ro hp) (h:H[ri]?=some (itO rk (.ref x.a))):∃ H',And4 (run thePrg (n + 2) 41 [.ref ri] H = .val .none H') (Ko H H') (H'[ri]?=some (itO rk (nxt 0 Z))) (∀ j o,H[j]?=some o→j ≠ ri→H'[j]?=some o):=by
 obtain ⟨q1,q2⟩:=(s.app (G:=[.frame] ++ [.frame])).link (pre:=hd :: A) (x:=x) (s:=Z) rfl (l:=0) (s.hi x (by exact List.mem_append_right _ (.head _))).1
 rw [← List.append_assoc] at q1 q2
 exact moved h (run_nx (D:=⟨1,1,b_MemIter_step,[]⟩) rfl rfl rfl (exs_nx (ex_setattr (ev_idx (ev_attr (ev_meth (ev_var rfl) (meth_at (get_app h) rfl rfl) evs_nil (m_tower (get_app h))) (attr_of q1 rfl rfl)) ev_int q2) (ev_var rfl) (setAttr_of (get_app (get_app h)) rfl (by exact Nat.le_add_left _ _))) exs_nil)) (by rw [List.append_assoc];exact pre1)
theorem m_back (s:SkAt H rk hd (A ++ x :: Z) ht ad ro hp) (sd:Sd (A ++ x :: Z)) (h:H[ri]?=some (itO rk (.ref x.a))):∃ H',And4 (run thePrg (n + 6) 42 [.ref ri] H = .val .none H') (Ko H H') (H'[ri]?=some (itO rk (bk A))) (∀ j o,H[j]?=some o→j ≠ ri→H'[j]?=some o):=by
 obtain ⟨k1,k2,k3,k4⟩:=s.key x (by exact List.mem_append_right _ (.head _))
 obtain ⟨sA,sZ⟩:=sd A x Z rfl
 have hx:=(s.sk.lkAt (y:=x) (by simp)).1
 obtain ⟨H1,e1,p1⟩:=f_before (n:=n) (kd:=x.kd) (s.app (G:=[.frame] ++ [.frame])) k2 k3 (by lia) sA sZ
 rw [← k1] at e1
 have p2:=pre1.trans p1
 rw [← List.append_assoc] at e1
 exact moved h (run_nx (D:=⟨1,1,b_MemIter_back,[]⟩) rfl rfl rfl (exs_nx (ex_setattr (ev_meth (ev_attr (ev_var rfl) (attr_of (get_app h) rfl rfl)) (meth_at (get_app s.obj) rfl rfl)
  (evs_cons (ev_attr (ev_meth (ev_var rfl) (meth_at (get_app h) rfl rfl) evs_nil (m_tower (get_app h))) (attr_of (get_app (get_app hx)) rfl rfl)) evs_nil) e1) (ev_var rfl) (setAttr_of (get_pre p2 h) rfl (by exact Nat.le_add_left _ _))) exs_nil)) p2
end
noncomputable def past (sk:Option (List UInt8)) (u:List UInt8):Bool:=match sk with
 | none=>true
 | some k=>bltB k u
noncomputable def ff (sq0:Nat) (sk:Option (List UInt8)):List Tw→List Tw
 | []=>[]
 | x :: L=>if x.sq ≤ sq0∧past sk x.u=true then (if x.kd=0 then ff sq0 (some x.u) L else x :: L) else ff sq0 sk L
structure UA (H:Hp) (rj ri rk sq0:Nat) (p:V) (g:Int) (good:Bool) (k v:List UInt8):Prop where
 u:H[rj]?=some (uiO ri sq0 g good k v)
 i:H[ri]?=some (itO rk p)
theorem UA.pre {H H':Hp} {rj ri rk sq0:Nat} {p:V} {g:Int} {good:Bool} {k v:List UInt8} (h:UA H rj ri rk sq0 p g good k v) (q:H <+: H'):UA H' rj ri rk sq0 p g good k v:=⟨get_pre q h.u,get_pre q h.i⟩
theorem UA.ne {H:Hp} {rj ri rk sq0:Nat} {p:V} {g:Int} {good:Bool} {k v:List UInt8} (h:UA H rj ri rk sq0 p g good k v):rj ≠ ri:=λe=>by
 have:=h.u
 rw [e,h.i] at this;cases this
theorem UA.put {H:Hp} {rj ri rk sq0:Nat} {p:V} {g g':Int} {good good':Bool} {k v k' v':List UInt8} (h:UA H rj ri rk sq0 p g good k v):UA (H.set rj (uiO ri sq0 g' good' k' v')) rj ri rk sq0 p g' good' k' v'∧Ko H (H.set rj (uiO ri sq0 g' good' k' v')) :=
 ⟨⟨get_set_eq h.u,get_set_ne h.i (Ne.symm h.ne)⟩,Ko.set h.u rfl⟩
section
variable {H:Hp} {rk ri rj sq0:Nat} {hd:Tw} {tw A Z:List Tw} {x:Tw} {ht ad ro hp n:Nat} {p:V} {g:Int} {good:Bool} {k v:List UInt8}
theorem set_good {b:Bool} (h:UA H rj ri rk sq0 p g good k v):setAttr theFld (.ref rj) 59 (.bool b) H=some (H.set rj (uiO ri sq0 g b k v)):=setAttr_of h.u rfl (by exact Nat.le_add_left _ _)
theorem set_going {j:Int} (h:UA H rj ri rk sq0 p g good k v):setAttr theFld (.ref rj) 57 (.int j) H=some (H.set rj (uiO ri sq0 j good k v)):=setAttr_of h.u rfl (by exact Nat.le_add_left _ _)
theorem set_key {l:List UInt8} (h:UA H rj ri rk sq0 p g good k v):setAttr theFld (.ref rj) 60 (.bytes l) H=some (H.set rj (uiO ri sq0 g good l v)):=setAttr_of h.u rfl (by exact Nat.le_add_left _ _)
theorem set_val {l:List UInt8} (h:UA H rj ri rk sq0 p g good k v):setAttr theFld (.ref rj) 61 (.bytes l) H=some (H.set rj (uiO ri sq0 g good k l)):=setAttr_of h.u rfl (by exact Nat.le_add_left _ _)
theorem u_forget (h:UA H rj ri rk sq0 p g good k v):∃ H',And3 (run thePrg (n + 1) 48 [.ref rj] H = .val .none H') (Ko H H') (UA H' rj ri rk sq0 p g false [] []):=by
 have h0:=h.pre (pre1 (G:=[.frame]))
 have h1:=h0.put (g':=g) (good':=false) (k':=k) (v':=v)
 have h2:=h1.1.put (g':=g) (good':=false) (k':=[]) (v':=v)
 have h3:=h2.1.put (g':=g) (good':=false) (k':=[]) (v':=[])
 exact ⟨_,run_nx (D:=⟨1,1,b_UserIter_forget,[]⟩) rfl rfl rfl (exs_nx (ex_setattr ev_bool (ev_var rfl) (set_good h0)) (exs_nx (ex_setattr ev_bytes (ev_var rfl) (set_key h1.1)) (exs_nx (ex_setattr ev_bytes (ev_var rfl) (set_val h2.1)) exs_nil))),
  (Ko.pre pre1).trans (h1.2.trans (h2.2.trans h3.2)),h3.1⟩
theorem u_valid (h:UA H rj ri rk sq0 p g good k v):run thePrg (n + 1) 46 [.ref rj] H = .val (.bool good) (H ++ [.frame]) :=
 run_ret (D:=⟨1,1,b_UserIter_valid,[]⟩) rfl rfl rfl (exs_ret (ex_ret (ev_attr (ev_var rfl) (attr_of (get_app h.u) rfl rfl))))
theorem u_need (h:UA H rj ri rk sq0 p g true k v):run thePrg (n + 1) 47 [.ref rj] H = .val .none (H ++ [.frame]) :=
 run_nx (D:=⟨1,1,b_UserIter_need,[]⟩) rfl rfl rfl (exs_nx (ex_ite_f (tv_b (ev_not (ev_attr (ev_var rfl) (attr_of (get_app h.u) rfl rfl)) rfl rfl)) exs_nil) exs_nil)
noncomputable def ffTest:E:=.or (.not (.var 1)) (.cmp .gt (.var 2) (.attr (.var 0) 60))
theorem tv_past {call:CallF} {fl:Bool} {u:List UInt8} {b3 b4:Option V} (h:UA H rj ri rk sq0 p g good k v):TV call ffTest [some (.ref rj),some (.bool fl),some (.bytes u),b3,b4] H (past (if fl then some k else none) u) H:=by
 cases fl with
 | false=>exact tv_b (ev_or_t (ev_not (ev_var rfl) rfl rfl) rfl)
 | true=>exact tv_b (ev_or_f (ev_not (ev_var rfl) rfl rfl) rfl (ev_cmp (ev_var rfl) (ev_attr (ev_var rfl) (attr_of h.u rfl rfl)) rfl))
theorem u_entry {xs:List Nat} {e e':En} (s:SkAt H rk hd tw ht ad ro hp) (hx:x ∈ tw) (h:UA H rj ri rk sq0 (.ref x.a) g good k v) (h0:look e 0=some (.ref rj)) (hp:puts e xs [.bytes x.u,.int x.sq,.int x.kd]=some e') :
  ∃ H',EX (run thePrg (n + 4)) (.unpack xs (.call 15 (.cons (.meth (.attr (.var 0) 54) 36 .nil) .nil))) e H (.nx e' H')∧H <+: H':=by
 obtain ⟨k1,k2,k3,k4⟩:=s.key x hx
 obtain ⟨H1,e1,p1⟩:=m_key (n:=n + 2) h.i (s.sk.lkAt (y:=x) (.tail _ hx)).1
 obtain ⟨r,H2,e2,p2,q2⟩:=f_split (n:=n) (H:=H1) k2 k3 k4
 rw [← k1] at e2
 exact ⟨H2,ex_unpack (l:=[.bytes x.u,.int x.sq,.int x.kd]) (ev_call (evs_cons (ev_meth (ev_attr (ev_var h0) (attr_of h.u rfl rfl)) (meth_at h.i rfl rfl) evs_nil e1) evs_nil) e2) (by unfold tupOf;dsimp only;rw [q2]) hp,p1.trans p2⟩
theorem nxt0_cons (s:SkAt H rk hd tw ht ad ro hp) (hx:x ∈ tw):nxt 0 (x :: Z) = .ref x.a:=if_pos (s.hi x hx).1
noncomputable def ffBody:Ss:=.cons (.unpack [2,3,4] (.call 15 (.cons (.meth (.attr (.var 0) 54) 36 .nil) .nil))) (.cons (.ite (.and (.notNone (.attr (.var 0) 56)) (.cmp .ge (.var 2) (.attr (.var 0) 56))) (.cons (.brk) .nil) .nil) (.cons (.ite (.cmp .le (.var 3) (.attr (.var 0) 1)) (.cons (.ite (.cmp .eq (.var 4) (.gint 9 0)) (.cons (.ite ffTest (.cons (.setattr (.var 0) 60 (.var 2)) (.cons (.assign 1 (.bool true)) .nil)) .nil) .nil) (.cons (.ite ffTest (.cons (.expr (.meth (.var 0) 62 .nil)) (.cons (.setattr (.var 0) 59 (.bool true)) (.cons (.ret0) .nil))) .nil) .nil)) .nil) .nil) (.cons (.expr (.meth (.attr (.var 0) 54) 71 .nil)) .nil)))
theorem ff_turn {fl:Bool} {b2 b3 b4:Option V} (s:SkAt H rk hd (A ++ x :: Z) ht ad ro hp) (h:UA H rj ri rk sq0 (.ref x.a) g good k v) :
  (Ex3 λH' fl' k'=>And3 (EXs (run thePrg (n + 4)) ffBody [some (.ref rj),some (.bool fl),b2,b3,b4] H (.nx [some (.ref rj),some (.bool fl'),some (.bytes x.u),some (.int x.sq),some (.int x.kd)] H')) (Ko H H') (UA H' rj ri rk sq0 (nxt 0 Z) g good k' v ∧
   ff sq0 (if fl then some k else none) (x :: Z)=ff sq0 (if fl' then some k' else none) Z)) ∨
  (∃ H',And4 (EXs (run thePrg (n + 4)) ffBody [some (.ref rj),some (.bool fl),b2,b3,b4] H (.ret .none H')) (Ko H H') (UA H' rj ri rk sq0 (.ref x.a) g true [] []) (ff sq0 (if fl then some k else none) (x :: Z)=x :: Z)):=by
 obtain ⟨H1,e1,p1⟩:=u_entry (n:=n) (xs:=[2,3,4]) (e:=[some (.ref rj),some (.bool fl),b2,b3,b4]) s (x:=x) (by exact List.mem_append_right _ (.head _)) h rfl rfl
 have h1:=h.pre p1
 have s1:=s.pre p1
 have t2:EX (run thePrg (n + 4)) (.ite (.and (.notNone (.attr (.var 0) 56)) (.cmp .ge (.var 2) (.attr (.var 0) 56))) (.cons (.brk) .nil) .nil) [some (.ref rj),some (.bool fl),some (.bytes x.u),some (.int x.sq),some (.int x.kd)] H1 (.nx [some (.ref rj),some (.bool fl),some (.bytes x.u),some (.int x.sq),some (.int x.kd)] H1) :=
  ex_ite_f (tv_b (ev_and_f (ev_notNone (ev_attr (ev_var rfl) (attr_of h1.u rfl rfl)) rfl) rfl)) exs_nil
 have next:∀ {fl' k' H2},Ko H H2→UA H2 rj ri rk sq0 (.ref x.a) g good k' v→EX (run thePrg (n + 4)) (.ite (.cmp .le (.var 3) (.attr (.var 0) 1)) (.cons (.ite (.cmp .eq (.var 4) (.gint 9 0)) (.cons (.ite ffTest (.cons (.setattr (.var 0) 60 (.var 2)) (.cons (.assign 1 (.bool true)) .nil)) .nil) .nil) (.cons (.ite ffTest (.cons (.expr (.meth (.var 0) 62 .nil)) (.cons (.setattr (.var 0) 59 (.bool true)) (.cons (.ret0) .nil))) .nil) .nil)) .nil) .nil)
    [some (.ref rj),some (.bool fl),some (.bytes x.u),some (.int x.sq),some (.int x.kd)] H1 (.nx [some (.ref rj),some (.bool fl'),some (.bytes x.u),some (.int x.sq),some (.int x.kd)] H2)→ff sq0 (if fl then some k else none) (x :: Z)=ff sq0 (if fl' then some k' else none) Z →
   (Ex3 λH' fl' k'=>And3 (EXs (run thePrg (n + 4)) ffBody [some (.ref rj),some (.bool fl),b2,b3,b4] H (.nx [some (.ref rj),some (.bool fl'),some (.bytes x.u),some (.int x.sq),some (.int x.kd)] H')) (Ko H H') (UA H' rj ri rk sq0 (nxt 0 Z) g good k' v ∧
   ff sq0 (if fl then some k else none) (x :: Z)=ff sq0 (if fl' then some k' else none) Z)):=fun {fl' k' H2} ko ua hx hf=>by
  obtain ⟨H3,e3,k3,i3,o3⟩:=m_step (n:=n + 2) (s.ko ko) ua.i
  exact ⟨H3,fl',k',exs_nx e1 (exs_nx t2 (exs_nx hx (exs_nx (ex_expr (ev_meth (ev_attr (ev_var rfl) (attr_of ua.u rfl rfl)) (meth_at ua.i rfl rfl) evs_nil e3) rfl) exs_nil))),ko.trans k3,⟨o3 _ _ ua.u ua.ne,i3⟩,hf⟩
 have le:∀ b,decide ((x.sq:Int) ≤ (sq0:Nat))=b→TV (run thePrg (n + 4)) (.cmp .le (.var 3) (.attr (.var 0) 1)) [some (.ref rj),some (.bool fl),some (.bytes x.u),some (.int x.sq),some (.int x.kd)] H1 b H1:=λb hb=>tv_b (ev_cmp (ev_var rfl) (ev_attr (ev_var rfl) (attr_of h1.u rfl rfl)) (congrArg some hb))
 have kz:∀ b,((x.kd:Int) == 0)=b→TV (run thePrg (n + 4)) (.cmp .eq (.var 4) (.gint 9 0)) [some (.ref rj),some (.bool fl),some (.bytes x.u),some (.int x.sq),some (.int x.kd)] H1 b H1:=λb hb=>tv_b (ev_cmp (ev_var rfl) ev_gint (congrArg some hb))
 have tp:=tv_past (call:=run thePrg (n + 4)) (fl:=fl) (u:=x.u) (b3:=some (.int x.sq)) (b4:=some (.int x.kd)) h1
 have ku:=s.key x (by exact List.mem_append_right _ (.head _))
 by_cases c1:x.sq ≤ sq0
 ·cases c2:past (if fl then some k else none) x.u with
  | true =>
   rw [c2] at tp
   by_cases c3:x.kd=0
   ·left
    have f1:ff sq0 (if fl then some k else none) (x :: Z)=ff sq0 (some x.u) Z:=(if_pos ⟨c1,c2⟩).trans (if_pos c3)
    have h2:=h1.put (g':=g) (good':=good) (k':=x.u) (v':=v)
    exact next (fl':=true) (k':=x.u) ((Ko.pre p1).trans h2.2) h2.1 (ex_ite_t (le true (by simpa using c1)) (exs_nx (ex_ite_t (kz true (by rw [c3];rfl)) (exs_nx (ex_ite_t tp (exs_nx (ex_setattr (ev_var rfl) (ev_var rfl) (set_key h1)) (exs_nx (ex_assign ev_bool) exs_nil))) exs_nil)) exs_nil)) f1
   ·right
    have f1:ff sq0 (if fl then some k else none) (x :: Z)=x :: Z:=(if_pos ⟨c1,c2⟩).trans (if_neg c3)
    obtain ⟨H2,e2,k2,u2⟩:=u_forget (n:=n + 3) h1
    have h3:=u2.put (g':=g) (good':=true) (k':=[]) (v':=[])
    exact ⟨_,exs_nx e1 (exs_nx t2 (exs_ret (ex_ite_t (le true (by simpa using c1)) (exs_ret (ex_ite_f (kz false (by simpa using c3)) (exs_ret (ex_ite_t tp (exs_nx (ex_expr (ev_meth (ev_var rfl) (meth_at h1.u rfl rfl) evs_nil e2) rfl) (exs_nx (ex_setattr ev_bool (ev_var rfl) (set_good u2)) (exs_ret ex_ret0)))))))))),(Ko.pre p1).trans (k2.trans h3.2),h3.1,f1⟩
  | false =>
   left
   rw [c2] at tp
   have f1:ff sq0 (if fl then some k else none) (x :: Z)=ff sq0 (if fl then some k else none) Z:=if_neg λq=>by rw [q.2] at c2;cases c2
   refine next (fl':=fl) (k':=k) (Ko.pre p1) h1 ?_ f1
   by_cases c3:x.kd=0
   ·exact ex_ite_t (le true (by simpa using c1)) (exs_nx (ex_ite_t (kz true (by rw [c3];rfl)) (exs_nx (ex_ite_f tp exs_nil) exs_nil)) exs_nil)
   ·exact ex_ite_t (le true (by simpa using c1)) (exs_nx (ex_ite_f (kz false (by simpa using c3)) (exs_nx (ex_ite_f tp exs_nil) exs_nil)) exs_nil)
 ·left
  exact next (fl':=fl) (k':=k) (Ko.pre p1) h1 (ex_ite_f (le false (by simpa using c1)) exs_nil) (if_neg λq=>c1 q.1)
theorem u_fwd {fl:Bool} (s:SkAt H rk hd (A ++ Z) ht ad ro hp) (h:UA H rj ri rk sq0 (nxt 0 Z) g good k v) :
  ∃ H',And3 (run thePrg (n + 5) 52 [.ref rj,.bool fl] H = .val .none H') (Ko H H') (UA H' rj ri rk sq0 (nxt 0 (ff sq0 (if fl then some k else none) Z)) g (!(ff sq0 (if fl then some k else none) Z).isEmpty) [] []):=by
 have hR:∃ R,R=ff sq0 (if fl then some k else none) Z:=⟨_,rfl⟩
 obtain ⟨R,hR⟩:=hR
 rw [← hR]
 obtain ⟨r,e,q⟩:=ex_while (call:=run thePrg (n + 4)) (a:=.meth (.attr (.var 0) 54) 68 .nil) (B:=ffBody) (s:=[some (.ref rj),some (.bool fl),none,none,none]) (H:=H ++ [.frame])
  (λr=>(Ex7 λb1 b2 b3 b4 h' k' v'=>And4 (r = .nx [some (.ref rj),b1,b2,b3,b4] h') (Ko H h') (UA h' rj ri rk sq0 (nxt 0 R) g good k' v') (R = []))∨(∃ h',And4 (r = .ret .none h') (Ko H h') (UA h' rj ri rk sq0 (nxt 0 R) g true [] []) (R ≠ [])))
  (λm e h'=>Ex7 λA' L fl' k' b2 b3 b4=>And6 (e = [some (.ref rj),some (.bool fl'),b2,b3,b4]) (A ++ Z=A' ++ L) (m=L.length) (Ko H h') (UA h' rj ri rk sq0 (nxt 0 L) g good k' v) (R=ff sq0 (if fl' then some k' else none) L))
  (k:=Z.length) (by have:=s.len;simp only [List.length_append] at this;unfold capL;lia) ⟨A,Z,fl,k,none,none,none,rfl,rfl,rfl,Ko.pre pre1,h.pre pre1,hR⟩ (by
   rintro m e h' ⟨A',L,fl',k',b2,b3,b4,rfl,eA,rfl,ko,ua,eR⟩
   have s':=s.ko ko
   rw [eA] at s'
   cases L with
   | nil =>
    left
    obtain ⟨H1,e1,p1⟩:=m_valid (n:=n + 3) ua.i
    exact ⟨H1,tv_b (ev_meth (ev_attr (ev_var rfl) (attr_of ua.u rfl rfl)) (meth_at ua.i rfl rfl) evs_nil e1),.inl ⟨_,_,_,_,H1,k',v,rfl,ko.trans (Ko.pre p1),by rw [eR];exact ua.pre p1,eR⟩⟩
   | cons x L =>
    right
    rw [nxt0_cons s' (x:=x) (by exact List.mem_append_right _ (.head _))] at ua
    obtain ⟨H1,e1,p1⟩:=m_valid (n:=n + 3) ua.i
    have tv:TV (run thePrg (n + 4)) (.meth (.attr (.var 0) 54) 68 .nil) [some (.ref rj),some (.bool fl'),b2,b3,b4] h' true H1:=tv_b (ev_meth (ev_attr (ev_var rfl) (attr_of ua.u rfl rfl)) (meth_at ua.i rfl rfl) evs_nil e1)
    rcases ff_turn (n:=n) (fl:=fl') (b2:=b2) (b3:=b3) (b4:=b4) (s'.pre p1) (ua.pre p1) with ⟨H2,fl2,k2,e2,ko2,ua2,f2⟩ | ⟨H2,e2,ko2,ua2,f2⟩
    ·exact ⟨H1,tv,_,e2,L.length,by exact Nat.lt_succ_self _,A' ++ [x],L,fl2,k2,_,_,_,rfl,by rw [eA];simp,rfl,ko.trans ((Ko.pre p1).trans ko2),ua2,eR.trans f2⟩
    ·have e3:=eR.trans f2
     exact ⟨H1,tv,_,e2,.inr ⟨H2,rfl,ko.trans ((Ko.pre p1).trans ko2),by rw [e3,nxt0_cons s' (x:=x) (by exact List.mem_append_right _ (.head _))];exact ua2,by rw [e3];simp⟩⟩)
 rcases q with ⟨b1,b2,b3,b4,h',k',v',rfl,ko,ua,eR⟩ | ⟨h',rfl,ko,ua,eR⟩
 ·obtain ⟨H2,e2,k2,u2⟩:=u_forget (n:=n + 3) ua
  refine ⟨H2,run_nx (D:=⟨2,5,b_UserIter_find_forward,[]⟩) rfl rfl rfl (exs_nx e (exs_nx (ex_expr (ev_meth (ev_var rfl) (meth_at ua.u rfl rfl) evs_nil e2) rfl) exs_nil)),ko.trans k2,?_⟩
  rw [eR] at u2 ⊢
  exact u2
 ·refine ⟨h',run_ret (D:=⟨2,5,b_UserIter_find_forward,[]⟩) rfl rfl rfl (exs_ret e),ko,?_⟩
  have:(!R.isEmpty)=true:=by cases R with
   | nil=>exact absurd rfl eR
   | cons=>rfl
  rw [this]
  exact ua
end
noncomputable def stop (st:Option (List UInt8 × List UInt8)) (u:List UInt8):Bool:=match st with
 | none=>false
 | some q=>bltB u q.1
noncomputable def fb (sq0:Nat):Option (List UInt8 × List UInt8)→List Tw→Option (List UInt8 × List UInt8) × List Tw
 | st,[]=>(st,[])
 | st,x :: M=>if x.sq ≤ sq0 then (if stop st x.u=true then (st,x :: M) else fb sq0 (if x.kd=0 then none else some (x.u,x.val)) M) else fb sq0 st M
noncomputable def hdV:List Tw→V
 | []=>.none
 | x :: _=>.ref x.a
theorem bk_rev (M:List Tw):bk M.reverse=hdV M:=by
 unfold bk
 rw [List.getLast?_reverse]
 cases M <;> rfl
section
variable {H:Hp} {rk ri rj sq0:Nat} {hd:Tw} {tw A Z M:List Tw} {x:Tw} {ht ad ro hp n:Nat} {p:V} {g:Int} {good:Bool} {k v:List UInt8}
noncomputable def fbBody:Ss:=.cons (.unpack [2,3,4] (.call 15 (.cons (.meth (.attr (.var 0) 54) 36 .nil) .nil))) (.cons (.ite (.and (.notNone (.attr (.var 0) 55)) (.cmp .lt (.var 2) (.attr (.var 0) 55))) (.cons (.brk) .nil) .nil) (.cons (.ite (.cmp .le (.var 3) (.attr (.var 0) 1)) (.cons (.ite (.and (.var 1) (.cmp .lt (.var 2) (.attr (.var 0) 60))) (.cons (.brk) .nil) .nil) (.cons (.ite (.cmp .eq (.var 4) (.gint 9 0)) (.cons (.assign 1 (.bool false)) (.cons (.expr (.meth (.var 0) 62 .nil)) .nil)) (.cons (.assign 1 (.bool true)) (.cons (.setattr (.var 0) 60 (.var 2)) (.cons (.setattr (.var 0) 61 (.meth (.attr (.var 0) 54) 37 .nil)) .nil)))) .nil)) .nil) (.cons (.expr (.meth (.attr (.var 0) 54) 69 .nil)) .nil)))
noncomputable def hv (fl:Bool) (k v:List UInt8):Option (List UInt8 × List UInt8):=if fl then some (k,v) else none
theorem fb_turn {fl:Bool} {b2 b3 b4:Option V} (s:SkAt H rk hd (M.reverse ++ x :: Z) ht ad ro hp) (sd:Sd (M.reverse ++ x :: Z)) (h:UA H rj ri rk sq0 (.ref x.a) g good k v) :
  (Ex5 λH' fl' good' k' v'=>And3 (EXs (run thePrg (n + 6)) fbBody [some (.ref rj),some (.bool fl),b2,b3,b4] H (.nx [some (.ref rj),some (.bool fl'),some (.bytes x.u),some (.int x.sq),some (.int x.kd)] H')) (Ko H H') (UA H' rj ri rk sq0 (hdV M) g good' k' v' ∧
   fb sq0 (hv fl k v) (x :: M)=fb sq0 (hv fl' k' v') M)) ∨
  (∃ H',And4 (EXs (run thePrg (n + 6)) fbBody [some (.ref rj),some (.bool fl),b2,b3,b4] H (.brk [some (.ref rj),some (.bool fl),some (.bytes x.u),some (.int x.sq),some (.int x.kd)] H')) (Ko H H') (UA H' rj ri rk sq0 (.ref x.a) g good k v) (fb sq0 (hv fl k v) (x :: M)=(hv fl k v,x :: M))):=by
 obtain ⟨H1,e1,p1⟩:=u_entry (n:=n + 2) (xs:=[2,3,4]) (e:=[some (.ref rj),some (.bool fl),b2,b3,b4]) s (x:=x) (by exact List.mem_append_right _ (.head _)) h rfl rfl
 have h1:=h.pre p1
 have s1:=s.pre p1
 have t2:EX (run thePrg (n + 6)) (.ite (.and (.notNone (.attr (.var 0) 55)) (.cmp .lt (.var 2) (.attr (.var 0) 55))) (.cons (.brk) .nil) .nil) [some (.ref rj),some (.bool fl),some (.bytes x.u),some (.int x.sq),some (.int x.kd)] H1 (.nx [some (.ref rj),some (.bool fl),some (.bytes x.u),some (.int x.sq),some (.int x.kd)] H1) :=
  ex_ite_f (tv_b (ev_and_f (ev_notNone (ev_attr (ev_var rfl) (attr_of h1.u rfl rfl)) rfl) rfl)) exs_nil
 have next:∀ {fl' good' k' v' H2},Ko H H2→UA H2 rj ri rk sq0 (.ref x.a) g good' k' v'→EX (run thePrg (n + 6)) (.ite (.cmp .le (.var 3) (.attr (.var 0) 1)) (.cons (.ite (.and (.var 1) (.cmp .lt (.var 2) (.attr (.var 0) 60))) (.cons (.brk) .nil) .nil) (.cons (.ite (.cmp .eq (.var 4) (.gint 9 0)) (.cons (.assign 1 (.bool false)) (.cons (.expr (.meth (.var 0) 62 .nil)) .nil)) (.cons (.assign 1 (.bool true)) (.cons (.setattr (.var 0) 60 (.var 2)) (.cons (.setattr (.var 0) 61 (.meth (.attr (.var 0) 54) 37 .nil)) .nil)))) .nil)) .nil)
    [some (.ref rj),some (.bool fl),some (.bytes x.u),some (.int x.sq),some (.int x.kd)] H1 (.nx [some (.ref rj),some (.bool fl'),some (.bytes x.u),some (.int x.sq),some (.int x.kd)] H2)→fb sq0 (hv fl k v) (x :: M)=fb sq0 (hv fl' k' v') M →
   (Ex5 λH' fl' good' k' v'=>And3 (EXs (run thePrg (n + 6)) fbBody [some (.ref rj),some (.bool fl),b2,b3,b4] H (.nx [some (.ref rj),some (.bool fl'),some (.bytes x.u),some (.int x.sq),some (.int x.kd)] H')) (Ko H H') (UA H' rj ri rk sq0 (hdV M) g good' k' v' ∧
   fb sq0 (hv fl k v) (x :: M)=fb sq0 (hv fl' k' v') M)):=fun {fl' good' k' v' H2} ko ua hx hf=>by
  obtain ⟨H3,e3,k3,i3,o3⟩:=m_back (n:=n) (s.ko ko) sd ua.i
  rw [bk_rev] at i3
  exact ⟨H3,fl',good',k',v',exs_nx e1 (exs_nx t2 (exs_nx hx (exs_nx (ex_expr (ev_meth (ev_attr (ev_var rfl) (attr_of ua.u rfl rfl)) (meth_at ua.i rfl rfl) evs_nil e3) rfl) exs_nil))),ko.trans k3,⟨o3 _ _ ua.u ua.ne,i3⟩,hf⟩
 have le:∀ b,decide ((x.sq:Int) ≤ (sq0:Nat))=b→TV (run thePrg (n + 6)) (.cmp .le (.var 3) (.attr (.var 0) 1)) [some (.ref rj),some (.bool fl),some (.bytes x.u),some (.int x.sq),some (.int x.kd)] H1 b H1:=λb hb=>tv_b (ev_cmp (ev_var rfl) (ev_attr (ev_var rfl) (attr_of h1.u rfl rfl)) (congrArg some hb))
 have kz:∀ b,((x.kd:Int) == 0)=b→TV (run thePrg (n + 6)) (.cmp .eq (.var 4) (.gint 9 0)) [some (.ref rj),some (.bool fl),some (.bytes x.u),some (.int x.sq),some (.int x.kd)] H1 b H1:=λb hb=>tv_b (ev_cmp (ev_var rfl) ev_gint (congrArg some hb))
 have st:TV (run thePrg (n + 6)) (.and (.var 1) (.cmp .lt (.var 2) (.attr (.var 0) 60))) [some (.ref rj),some (.bool fl),some (.bytes x.u),some (.int x.sq),some (.int x.kd)] H1 (stop (hv fl k v) x.u) H1:=by
  cases fl with
  | false=>exact tv_b (ev_and_f (ev_var rfl) rfl)
  | true=>exact tv_b (ev_and_t (ev_var rfl) rfl (ev_cmp (ev_var rfl) (ev_attr (ev_var rfl) (attr_of h1.u rfl rfl)) rfl))
 by_cases c1:x.sq ≤ sq0
 ·cases c2:stop (hv fl k v) x.u with
  | true =>
   right
   rw [c2] at st
   exact ⟨H1,exs_nx e1 (exs_nx t2 (exs_brk (ex_ite_t (le true (by simpa using c1)) (exs_brk (ex_ite_t st (exs_brk ex_brk)))))),Ko.pre p1,h1,(if_pos c1).trans (if_pos c2)⟩
  | false =>
   left
   rw [c2] at st
   have f0:fb sq0 (hv fl k v) (x :: M)=fb sq0 (if x.kd=0 then none else some (x.u,x.val)) M:=(if_pos c1).trans (if_neg (by rw [c2];exact Bool.false_ne_true))
   by_cases c3:x.kd=0
   ·obtain ⟨H2,e2,k2,u2⟩:=u_forget (n:=n + 5) h1
    exact next (fl':=false) ((Ko.pre p1).trans k2) u2 (ex_ite_t (le true (by simpa using c1)) (exs_nx (ex_ite_f st exs_nil) (exs_nx (ex_ite_t (kz true (by rw [c3];rfl)) (exs_nx (ex_assign ev_bool) (exs_nx (ex_expr (ev_meth (ev_var rfl) (meth_at h1.u rfl rfl) evs_nil e2) rfl) exs_nil))) exs_nil)))
     (f0.trans (by rw [if_pos c3];rfl))
   ·have h2:=h1.put (g':=g) (good':=good) (k':=x.u) (v':=v)
    obtain ⟨H2,e2,p2⟩:=m_value (n:=n + 4) (x:=x) h2.1.i ((s1.ko h2.2).sk.lkAt (y:=x) (by simp)).1
    have h3:=h2.1.pre p2
    have h4:=h3.put (g':=g) (good':=good) (k':=x.u) (v':=x.val)
    exact next (fl':=true) ((Ko.pre p1).trans (h2.2.trans ((Ko.pre p2).trans h4.2))) h4.1 (ex_ite_t (le true (by simpa using c1)) (exs_nx (ex_ite_f st exs_nil) (exs_nx (ex_ite_f (kz false (by simpa using c3)) (exs_nx (ex_assign ev_bool) (exs_nx (ex_setattr (ev_var rfl) (ev_var rfl) (set_key h1))
     (exs_nx (ex_setattr (ev_meth (ev_attr (ev_var rfl) (attr_of h2.1.u rfl rfl)) (meth_at h2.1.i rfl rfl) evs_nil e2) (ev_var rfl) (set_val h3)) exs_nil)))) exs_nil))) (f0.trans (by rw [if_neg c3];rfl))
 ·left
  exact next (fl':=fl) (Ko.pre p1) h1 (ex_ite_f (le false (by simpa using c1)) exs_nil) (if_neg c1)
theorem u_bwd (s:SkAt H rk hd (M.reverse ++ Z) ht ad ro hp) (sd:Sd (M.reverse ++ Z)) (h:UA H rj ri rk sq0 (hdV M) g good k v) :
  Ex3 λH' k' v'=>And4 (run thePrg (n + 7) 53 [.ref rj] H = .val .none H') (Ko H H') (UA H' rj ri rk sq0 (hdV (fb sq0 none M).2) 1 (fb sq0 none M).1.isSome k' v') (∀ q,(fb sq0 none M).1=some q→q=(k',v')):=by
 have hR:∃ R,R=fb sq0 none M:=⟨_,rfl⟩
 obtain ⟨R,hR⟩:=hR
 rw [← hR]
 obtain ⟨H0,e0,k0,u0⟩:=u_forget (n:=n + 5) (h.pre (pre1 (G:=[.frame])))
 obtain ⟨r,e,q⟩:=ex_while (call:=run thePrg (n + 6)) (a:=.meth (.attr (.var 0) 54) 68 .nil) (B:=fbBody) (s:=[some (.ref rj),some (.bool false),none,none,none]) (H:=H0)
  (λr=>Ex8 λfl b2 b3 b4 h' good' k' v'=>And4 (r = .nx [some (.ref rj),some (.bool fl),b2,b3,b4] h') (Ko H h') (UA h' rj ri rk sq0 (hdV R.2) g good' k' v') (R.1=hv fl k' v'))
  (λm e h'=>Ex9 λL Z' fl' good' k' v' b2 b3 b4=>And6 (e = [some (.ref rj),some (.bool fl'),b2,b3,b4]) (M.reverse ++ Z=L.reverse ++ Z') (m=L.length) (Ko H h') (UA h' rj ri rk sq0 (hdV L) g good' k' v') (R=fb sq0 (hv fl' k' v') L))
  (k:=M.length) (by have:=s.len;simp only [List.length_append,List.length_reverse] at this;unfold capL;lia) ⟨M,Z,false,_,_,_,none,none,none,rfl,rfl,rfl,(Ko.pre pre1).trans k0,u0,hR⟩ (by
   rintro m e h' ⟨L,Z',fl',good',k',v',b2,b3,b4,rfl,eA,rfl,ko,ua,eR⟩
   have s':=s.ko ko
   have sd':=sd
   rw [eA] at s' sd'
   cases L with
   | nil =>
    left
    obtain ⟨H1,e1,p1⟩:=m_valid (n:=n + 5) ua.i
    exact ⟨H1,tv_b (ev_meth (ev_attr (ev_var rfl) (attr_of ua.u rfl rfl)) (meth_at ua.i rfl rfl) evs_nil e1),fl',b2,b3,b4,H1,_,k',v',rfl,ko.trans (Ko.pre p1),by rw [eR];exact ua.pre p1,by rw [eR];rfl⟩
   | cons x L =>
    right
    obtain ⟨H1,e1,p1⟩:=m_valid (n:=n + 5) ua.i
    have tv:TV (run thePrg (n + 6)) (.meth (.attr (.var 0) 54) 68 .nil) [some (.ref rj),some (.bool fl'),b2,b3,b4] h' true H1:=tv_b (ev_meth (ev_attr (ev_var rfl) (attr_of ua.u rfl rfl)) (meth_at ua.i rfl rfl) evs_nil e1)
    have eL:(x :: L).reverse ++ Z'=L.reverse ++ x :: Z':=by simp
    rw [eL] at s' sd'
    rcases fb_turn (n:=n) (fl:=fl') (b2:=b2) (b3:=b3) (b4:=b4) (s'.pre p1) sd' (ua.pre p1) with ⟨H2,fl2,g2,k2,v2,e2,ko2,ua2,f2⟩ | ⟨H2,e2,ko2,ua2,f2⟩
    ·exact ⟨H1,tv,_,e2,L.length,by exact Nat.lt_succ_self _,L,x :: Z',fl2,g2,k2,v2,_,_,_,rfl,by rw [eA,eL],rfl,ko.trans ((Ko.pre p1).trans ko2),ua2,eR.trans f2⟩
    ·have e3:=eR.trans f2
     exact ⟨H1,tv,_,e2,fl',_,_,_,H2,_,k',v',rfl,ko.trans ((Ko.pre p1).trans ko2),by rw [e3];exact ua2,by rw [e3]⟩)
 obtain ⟨fl,b2,b3,b4,h',good',k',v',rfl,ko,ua,eR⟩:=q
 have h1:=ua.put (g':=g) (good':=fl) (k':=k') (v':=v')
 have h2:=h1.1.put (g':=1) (good':=fl) (k':=k') (v':=v')
 have e4:R.1.isSome=fl:=by rw [eR];cases fl <;> rfl
 refine ⟨_,k',v',run_nx (D:=⟨1,5,b_UserIter_find_backward,[]⟩) rfl rfl rfl (exs_nx (ex_assign ev_bool) (exs_nx (ex_expr (ev_meth (ev_var rfl) (meth_at (get_app h.u) rfl rfl) evs_nil e0) rfl)
  (exs_nx e (exs_nx (ex_setattr (ev_var rfl) (ev_var rfl) (set_good ua)) (exs_nx (ex_setattr ev_gint (ev_var rfl) (set_going h1.1)) exs_nil))))),ko.trans (h1.2.trans h2.2),by rw [e4];exact h2.1,λq hq=>?_⟩
 rw [eR] at hq
 cases fl with
 | false=>cases hq
 | true=>exact (Option.some.inj hq).symm
end
theorem set_at {H G:Hp} {c n:Nat} {fs:List (Nat × V)} {v:V} (hf:theFld c n=true) (hl:fs.length < 100):setAttr theFld (.ref H.length) n v (H ++ .inst c fs :: G)=some (H ++ .inst c (setF n v fs) :: G):=by
 rw [setAttr_of get_mid hf hl,set_mid]
section
variable {H:Hp} {rk ri rj rt sq0:Nat} {hd:Tw} {tw A Z M:List Tw} {x:Tw} {ht ad ro hp n:Nat} {p:V} {g:Int} {good:Bool} {k v:List UInt8}
theorem u_seekFirst (s:SkAt H rk hd tw ht ad ro hp) (h:UA H rj ri rk sq0 p g good k v) :
  ∃ H',And3 (run thePrg (n + 6) 49 [.ref rj] H = .val .none H') (Ko H H') (UA H' rj ri rk sq0 (nxt 0 (ff sq0 none tw)) 0 (!(ff sq0 none tw).isEmpty) [] []):=by
 have h0:=h.pre (pre1 (G:=[.frame]))
 have h1:=h0.put (g':=0) (good':=good) (k':=k) (v':=v)
 obtain ⟨H2,e2,k2,u2⟩:=u_forget (n:=n + 4) h1.1
 have s2:=s.ko ((Ko.pre pre1).trans (h1.2.trans k2))
 obtain ⟨H3,e3,k3,i3,o3⟩:=m_first (n:=n + 3) s2 u2.i
 have u3:UA H3 rj ri rk sq0 (nxt 0 tw) 0 false [] []:=⟨o3 _ _ u2.u u2.ne,i3⟩
 obtain ⟨H4,e4,k4,u4⟩:=u_fwd (n:=n) (A:=[]) (fl:=false) (s2.ko k3) u3
 exact ⟨H4,run_nx (D:=⟨1,1,b_UserIter_seek_first,[]⟩) rfl rfl rfl (exs_nx (ex_setattr ev_gint (ev_var rfl) (set_going h0)) (exs_nx (ex_expr (ev_meth (ev_var rfl) (meth_at h1.1.u rfl rfl) evs_nil e2) rfl)
  (exs_nx (ex_ite_t (tv_b (ev_isNone (ev_attr (ev_var rfl) (attr_of u2.u rfl rfl)) rfl)) (exs_nx (ex_expr (ev_meth (ev_attr (ev_var rfl) (attr_of u2.u rfl rfl)) (meth_at u2.i rfl rfl) evs_nil e3) rfl) exs_nil))
   (exs_nx (ex_expr (ev_meth (ev_var rfl) (meth_at u3.u rfl rfl) (evs_cons ev_bool evs_nil) e4) rfl) exs_nil)))),(Ko.pre pre1).trans (h1.2.trans (k2.trans (k3.trans k4))),u4⟩
theorem u_seekLast (s:SkAt H rk hd tw ht ad ro hp) (sd:Sd tw) (h:UA H rj ri rk sq0 p g good k v) :
  Ex3 λH' k' v'=>And4 (run thePrg (n + 8) 51 [.ref rj] H = .val .none H') (Ko H H') (UA H' rj ri rk sq0 (hdV (fb sq0 none tw.reverse).2) 1 (fb sq0 none tw.reverse).1.isSome k' v') (∀ q,(fb sq0 none tw.reverse).1=some q→q=(k',v')):=by
 have h0:=h.pre (pre1 (G:=[.frame]))
 have h1:=h0.put (g':=1) (good':=good) (k':=k) (v':=v)
 obtain ⟨H2,e2,k2,u2⟩:=u_forget (n:=n + 6) h1.1
 have s2:=s.ko ((Ko.pre pre1).trans (h1.2.trans k2))
 obtain ⟨H3,e3,k3,i3,o3⟩:=m_last (n:=n + 5) s2 u2.i
 have e0:tw=tw.reverse.reverse ++ []:=by simp
 have u3:UA H3 rj ri rk sq0 (hdV tw.reverse) 1 false [] []:=⟨o3 _ _ u2.u u2.ne,by rw [i3,← bk_rev,List.reverse_reverse]⟩
 obtain ⟨H4,k',v',e4,k4,u4,q4⟩:=u_bwd (n:=n) (M:=tw.reverse) (Z:=[]) (by rw [← e0];exact s2.ko k3) (by rw [← e0];exact sd) u3
 exact ⟨H4,k',v',run_nx (D:=⟨1,1,b_UserIter_seek_last,[]⟩) rfl rfl rfl (exs_nx (ex_setattr ev_gint (ev_var rfl) (set_going h0)) (exs_nx (ex_expr (ev_meth (ev_var rfl) (meth_at h1.1.u rfl rfl) evs_nil e2) rfl)
  (exs_nx (ex_ite_t (tv_b (ev_isNone (ev_attr (ev_var rfl) (attr_of u2.u rfl rfl)) rfl)) (exs_nx (ex_expr (ev_meth (ev_attr (ev_var rfl) (attr_of u2.u rfl rfl)) (meth_at u2.i rfl rfl) evs_nil e3) rfl) exs_nil))
   (exs_nx (ex_expr (ev_meth (ev_var rfl) (meth_at u3.u rfl rfl) evs_nil e4) rfl) exs_nil)))),(Ko.pre pre1).trans (h1.2.trans (k2.trans (k3.trans k4))),u4,q4⟩
theorem u_user {e:En} (s:SkAt H rk hd tw ht ad ro hp) (hx:x ∈ tw) (h:UA H rj ri rk sq0 (.ref x.a) g good k v) (h0:look e 0=some (.ref rj)):∃ H',EV (run thePrg (n + 2)) (.call 16 (.cons (.meth (.attr (.var 0) 54) 36 .nil) .nil)) e H (.bytes x.u) H'∧H <+: H':=by
 obtain ⟨k1,k2,k3,k4⟩:=s.key x hx
 obtain ⟨H1,e1,p1⟩:=m_key (n:=n) h.i (s.sk.lkAt (y:=x) (.tail _ hx)).1
 obtain ⟨H2,e2,p2⟩:=f_user (n:=n + 1) (H:=H1) (u:=x.u) (sq:=x.sq) (kd:=x.kd) k2
 rw [← k1] at e2
 exact ⟨H2,ev_call (evs_cons (ev_meth (ev_attr (ev_var h0) (attr_of h.u rfl rfl)) (meth_at h.i rfl rfl) evs_nil e1) evs_nil) e2,p1.trans p2⟩
theorem u_step (s:SkAt H rk hd (A ++ x :: Z) ht ad ro hp) (h:UA H rj ri rk sq0 (.ref x.a) 0 true k v) :
  ∃ H',And3 (run thePrg (n + 6) 54 [.ref rj] H = .val .none H') (Ko H H') (UA H' rj ri rk sq0 (nxt 0 (ff sq0 (some x.u) Z)) 0 (!(ff sq0 (some x.u) Z).isEmpty) [] []):=by
 have h0:=h.pre (pre1 (G:=[.frame]))
 have e1:=u_need (n:=n + 4) h0
 have h1:=h0.pre (pre1 (G:=[.frame]))
 have h2:=h1.put (g':=0) (good':=false) (k':=k) (v':=v)
 have s2:=s.ko ((Ko.pre pre1).trans ((Ko.pre pre1).trans h2.2))
 obtain ⟨H3,e3,p3⟩:=u_user (n:=n + 3) (x:=x) (e:=[some (.ref rj)]) s2 (by exact List.mem_append_right _ (.head _)) h2.1 rfl
 have h3:=h2.1.pre p3
 have h4:=h3.put (g':=0) (good':=false) (k':=x.u) (v':=v)
 have s4:=s2.ko ((Ko.pre p3).trans h4.2)
 obtain ⟨H5,e5,k5,i5,o5⟩:=m_step (n:=n + 3) s4 h4.1.i
 have u5:UA H5 rj ri rk sq0 (nxt 0 Z) 0 false x.u v:=⟨o5 _ _ h4.1.u h4.1.ne,i5⟩
 obtain ⟨H6,e6,k6,u6⟩:=u_fwd (n:=n) (A:=A ++ [x]) (Z:=Z) (fl:=true) (by rw [List.append_assoc];exact s4.ko k5) u5
 exact ⟨H6,run_nx (D:=⟨1,1,b_UserIter_step,[]⟩) rfl rfl rfl (exs_nx (ex_expr (ev_meth (ev_var rfl) (meth_at h0.u rfl rfl) evs_nil e1) rfl) (exs_nx (ex_setattr ev_bool (ev_var rfl) (set_good h1))
  (exs_nx (ex_ite_f (tv_b (ev_cmp (ev_attr (ev_var rfl) (attr_of h2.1.u rfl rfl)) ev_gint rfl)) (exs_nx (ex_setattr e3 (ev_var rfl) (set_key h3)) (exs_nx (ex_expr (ev_meth (ev_attr (ev_var rfl) (attr_of h4.1.u rfl rfl)) (meth_at h4.1.i rfl rfl) evs_nil e5) rfl) exs_nil)))
   (exs_nx (ex_expr (ev_meth (ev_var rfl) (meth_at u5.u rfl rfl) (evs_cons ev_bool evs_nil) e6) rfl) exs_nil)))),
  (Ko.pre pre1).trans ((Ko.pre pre1).trans (h2.2.trans ((Ko.pre p3).trans (h4.2.trans (k5.trans k6))))),u6⟩
theorem u_back (s:SkAt H rk hd (M.reverse ++ Z) ht ad ro hp) (sd:Sd (M.reverse ++ Z)) (h:UA H rj ri rk sq0 (hdV M) 1 true k v) :
  Ex3 λH' k' v'=>And4 (run thePrg (n + 8) 55 [.ref rj] H = .val .none H') (Ko H H') (UA H' rj ri rk sq0 (hdV (fb sq0 none M).2) 1 (fb sq0 none M).1.isSome k' v') (∀ q,(fb sq0 none M).1=some q→q=(k',v')):=by
 have h0:=h.pre (pre1 (G:=[.frame]))
 have e1:=u_need (n:=n + 6) h0
 have h1:=h0.pre (pre1 (G:=[.frame]))
 have h2:=h1.put (g':=1) (good':=false) (k':=k) (v':=v)
 have ko2:=(Ko.pre pre1).trans ((Ko.pre pre1).trans h2.2)
 obtain ⟨H3,k',v',e3,k3,u3,q3⟩:=u_bwd (n:=n) (s.ko ko2) sd h2.1
 exact ⟨H3,k',v',run_nx (D:=⟨1,2,b_UserIter_back,[]⟩) rfl rfl rfl (exs_nx (ex_expr (ev_meth (ev_var rfl) (meth_at h0.u rfl rfl) evs_nil e1) rfl) (exs_nx (ex_setattr ev_bool (ev_var rfl) (set_good h1))
  (exs_nx (ex_ite_f (tv_b (ev_cmp (ev_attr (ev_var rfl) (attr_of h2.1.u rfl rfl)) ev_gint rfl)) exs_nil) (exs_nx (ex_expr (ev_meth (ev_var rfl) (meth_at h2.1.u rfl rfl) evs_nil e3) rfl) exs_nil)))),ko2.trans k3,u3,q3⟩
theorem u_key0 (s:SkAt H rk hd tw ht ad ro hp) (hx:x ∈ tw) (h:UA H rj ri rk sq0 (.ref x.a) 0 true k v):Pv (run thePrg (n + 3) 56 [.ref rj] H) (.bytes x.u) H:=by
 have h0:=h.pre (pre1 (G:=[.frame]))
 have h1:=h0.pre (pre1 (G:=[.frame]))
 obtain ⟨H3,e3,p3⟩:=u_user (n:=n) (x:=x) (e:=[some (.ref rj)]) ((s.pre pre1).pre pre1) hx h1 rfl
 exact ⟨H3,run_ret (D:=⟨1,1,b_UserIter_key,[]⟩) rfl rfl rfl (exs_nx (ex_expr (ev_meth (ev_var rfl) (meth_at h0.u rfl rfl) evs_nil (u_need h0)) rfl)
  (exs_nx (ex_ite_f (tv_b (ev_cmp (ev_attr (ev_var rfl) (attr_of h1.u rfl rfl)) ev_gint rfl)) exs_nil) (exs_ret (ex_ret e3)))),pre1.trans (pre1.trans p3)⟩
theorem u_key1 (h:UA H rj ri rk sq0 p 1 true k v):Pv (run thePrg (n + 3) 56 [.ref rj] H) (.bytes k) H:=by
 have h0:=h.pre (pre1 (G:=[.frame]))
 have h1:=h0.pre (pre1 (G:=[.frame]))
 exact ⟨_,run_ret (D:=⟨1,1,b_UserIter_key,[]⟩) rfl rfl rfl (exs_nx (ex_expr (ev_meth (ev_var rfl) (meth_at h0.u rfl rfl) evs_nil (u_need h0)) rfl)
  (exs_ret (ex_ite_t (tv_b (ev_cmp (ev_attr (ev_var rfl) (attr_of h1.u rfl rfl)) ev_gint rfl)) (exs_ret (ex_ret (ev_attr (ev_var rfl) (attr_of h1.u rfl rfl))))))),pre1.trans pre1⟩
theorem u_value0 (s:SkAt H rk hd tw ht ad ro hp) (hx:x ∈ tw) (h:UA H rj ri rk sq0 (.ref x.a) 0 true k v):Pv (run thePrg (n + 3) 57 [.ref rj] H) (.bytes x.val) H:=by
 have h0:=h.pre (pre1 (G:=[.frame]))
 have h1:=h0.pre (pre1 (G:=[.frame]))
 obtain ⟨H3,e3,p3⟩:=m_value (n:=n) (x:=x) h1.i (((s.pre pre1).pre pre1).sk.lkAt (y:=x) (.tail _ hx)).1
 exact ⟨H3,run_ret (D:=⟨1,1,b_UserIter_value,[]⟩) rfl rfl rfl (exs_nx (ex_expr (ev_meth (ev_var rfl) (meth_at h0.u rfl rfl) evs_nil (u_need h0)) rfl)
  (exs_nx (ex_ite_f (tv_b (ev_cmp (ev_attr (ev_var rfl) (attr_of h1.u rfl rfl)) ev_gint rfl)) exs_nil) (exs_ret (ex_ret (ev_meth (ev_attr (ev_var rfl) (attr_of h1.u rfl rfl)) (meth_at h1.i rfl rfl) evs_nil e3))))),pre1.trans (pre1.trans p3)⟩
theorem u_value1 (h:UA H rj ri rk sq0 p 1 true k v):Pv (run thePrg (n + 3) 57 [.ref rj] H) (.bytes v) H:=by
 have h0:=h.pre (pre1 (G:=[.frame]))
 have h1:=h0.pre (pre1 (G:=[.frame]))
 exact ⟨_,run_ret (D:=⟨1,1,b_UserIter_value,[]⟩) rfl rfl rfl (exs_nx (ex_expr (ev_meth (ev_var rfl) (meth_at h0.u rfl rfl) evs_nil (u_need h0)) rfl)
  (exs_ret (ex_ite_t (tv_b (ev_cmp (ev_attr (ev_var rfl) (attr_of h1.u rfl rfl)) ev_gint rfl)) (exs_ret (ex_ret (ev_attr (ev_var rfl) (attr_of h1.u rfl rfl))))))),pre1.trans pre1⟩
theorem t_walk {w:Int} (ot:H[rt]?=some (tabO ro rk w)):Ex2 λr H'=>And3 (run thePrg (n + 2) 34 [.ref rt] H = .val (.ref r) H') (H <+: H') (H'[r]?=some (itO rk .none)):=by
 refine ⟨(H ++ [O.frame]).length,_,run_ret (D:=⟨1,1,b_MemTable_walk,[]⟩) rfl rfl rfl (exs_ret (ex_ret (ev_new (f:=35) rfl (evs_cons (ev_var rfl) evs_nil) (run_nx (n:=n) (e:=[some (.ref (H ++ [O.frame]).length),some (.ref rt)]) (D:=⟨2,2,b_MemIter_init,[]⟩) rfl rfl rfl (H':=(H ++ [.frame]) ++ itO rk .none :: [.frame]) ?_)))),?_,get_mid⟩
 ·rw [List.append_assoc (H ++ [O.frame])]
  refine exs_nx (ex_setattr (ev_attr (ev_var rfl) (attr_of (get_app (get_app ot)) rfl rfl)) (ev_var rfl) (set_at rfl (by exact Nat.succ_pos _))) (exs_nx (ex_setattr ev_none (ev_var rfl) (set_at rfl (by simp [setF]))) exs_nil)
 ·rw [List.append_assoc];exact pre1
theorem u_init {ri:Nat} (o:V):run thePrg (n + 1) 45 [.ref H.length,.ref ri,.int sq0,o,.none,.none] (H ++ [.inst 19 []]) = .val .none (H ++ uiO ri sq0 0 false [] [] :: [.frame]):=by
 refine run_nx (e:=[some (.ref H.length),some (.ref ri),some (.int sq0),some o,some .none,some .none]) (D:=⟨6,6,b_UserIter_init,[]⟩) rfl rfl rfl ?_
 rw [List.append_assoc]
 exact exs_nx (ex_setattr (ev_var rfl) (ev_var rfl) (set_at rfl (by exact Nat.succ_pos _))) (exs_nx (ex_setattr (ev_var rfl) (ev_var rfl) (set_at rfl (by simp [setF]))) (exs_nx (ex_setattr (ev_var rfl) (ev_var rfl) (set_at rfl (by simp [setF]))) (exs_nx (ex_setattr (ev_var rfl) (ev_var rfl) (set_at rfl (by simp [setF])))
  (exs_nx (ex_setattr ev_gint (ev_var rfl) (set_at rfl (by simp [setF]))) (exs_nx (ex_setattr ev_bool (ev_var rfl) (set_at rfl (by simp [setF]))) (exs_nx (ex_setattr ev_bytes (ev_var rfl) (set_at rfl (by simp [setF]))) (exs_nx (ex_setattr ev_bytes (ev_var rfl) (set_at rfl (by simp [setF]))) exs_nil)))))))
end
noncomputable def KS:List (List UInt8):=[[],[107],[107,0]]
noncomputable def kr (u:List UInt8):Nat:=if u = [] then 0 else if u = [107] then 1 else 2
theorem cmpB_ks:∀ u ∈ KS,∀ v ∈ KS,cmpB u v=if kr u < kr v then -1 else if kr v < kr u then 1 else 0:=by decide
theorem kr_inj:∀ u ∈ KS,∀ v ∈ KS,kr u=kr v→u=v:=by decide
theorem cmpT_eq {x:Tw} {v:List UInt8} {sq kd:Nat} (hx:x.u ∈ KS) (hv:v ∈ KS):cmpT x v sq kd=if kr x.u < kr v then -1 else if kr v < kr x.u then 1 else if sq * 256 + kd < x.sq * 256 + x.kd then -1 else if x.sq * 256 + x.kd < sq * 256 + kd then 1 else 0:=by
 unfold cmpT cmpK
 rw [cmpB_ks _ hx _ hv]
 by_cases h:kr x.u < kr v
 ·simp [h]
 ·by_cases g:kr v < kr x.u
  ·simp [h,g]
  ·simp [h,g,cmpN]
theorem cmpT_lt {x:Tw} {v:List UInt8} {sq kd:Nat} (hx:x.u ∈ KS) (hv:v ∈ KS):cmpT x v sq kd < 0 ↔ kr x.u < kr v∨(kr x.u=kr v∧sq * 256 + kd < x.sq * 256 + x.kd):=by
 rw [cmpT_eq hx hv]
 (repeat' split) <;> simp <;> (first | omega | lia)
theorem cmpT_gt {x:Tw} {v:List UInt8} {sq kd:Nat} (hx:x.u ∈ KS) (hv:v ∈ KS):0 < cmpT x v sq kd ↔ kr v < kr x.u∨(kr x.u=kr v∧x.sq * 256 + x.kd < sq * 256 + kd):=by
 rw [cmpT_eq hx hv]
 (repeat' split) <;> simp <;> (first | lia | omega)
theorem halves {α:Type} {r:α→α→Prop} {p:α→Bool} (hp:∀ x y,r x y→p y=true→p x=true):∀ {l:List α},l.Pairwise r→l=l.filter p ++ l.filter λx=>!p x
 | [],_=>rfl
 | x :: l,h=>by
  rw [List.pairwise_cons] at h
  have ih:=halves hp h.2
  cases hx:p x with
  | true=>rw [List.filter_cons_of_pos hx,List.filter_cons_of_neg (by simp [hx]),List.cons_append,← ih]
  | false =>
   have:l.filter p = []:=List.filter_eq_nil_iff.mpr λy hy c=>by rw [hp x y (h.1 y hy) c] at hx;cases hx
   rw [this] at ih
   rw [List.filter_cons_of_neg (by simp [hx]),List.filter_cons_of_pos (by simp [hx]),this,← List.nil_append (l.filter _),← ih]
   rfl
noncomputable abbrev Wr:=List UInt8 × Option (List UInt8)
noncomputable abbrev Ent:=Nat × Nat × List UInt8
noncomputable def ent (x:Tw):Ent:=(x.sq,x.kd,x.val)
noncomputable def wkd (w:Wr):Nat:=if w.2.isSome then 1 else 0
noncomputable def ents (u:List UInt8) (B:Nat):List Wr→List Ent
 | []=>[]
 | w :: R=>if w.1=u then (B + R.length + 1,wkd w,w.2.getD []) :: ents u B R else ents u B R
theorem ents_b {u:List UInt8} {B:Nat}:∀ {R:List Wr} {e:Ent},e ∈ ents u B R→B < e.1∧e.1 ≤ B + R.length∧e.2.1 ≤ 1
 | w :: R,e,h=>by
  unfold ents at h
  split at h
  ·rcases List.mem_cons.mp h with rfl | h
   ·have:wkd w ≤ 1:=by unfold wkd;split <;> (first | exact Nat.le_refl _ | exact Nat.zero_le _)
    simp;lia
   ·have:=ents_b h;simp;lia
  ·have:=ents_b h;simp;lia
noncomputable def isU (u:List UInt8) (x:Tw):Bool:=decide (x.u=u)
structure Mem (B:Nat) (R:List Wr) (tw:List Tw):Prop where
 ks:∀ x ∈ tw,x.u ∈ KS
 pw:tw.Pairwise λx y=>kr x.u < kr y.u∨(kr x.u=kr y.u∧y.sq < x.sq)
 en:∀ u ∈ KS,(tw.filter (isU u)).map ent=ents u B R
theorem Mem.sq {B:Nat} {R:List Wr} {tw:List Tw} (h:Mem B R tw) {x:Tw} (hx:x ∈ tw):B < x.sq∧x.sq ≤ B + R.length∧x.kd ≤ 1:=by
 have:ent x ∈ ents x.u B R:=by
  rw [← h.en x.u (h.ks x hx)]
  exact List.mem_map.mpr ⟨x,List.mem_filter.mpr ⟨hx,decide_eq_true rfl⟩,rfl⟩
 exact ents_b this
theorem lex3 {a b c s t r:Nat} (h:a < b∨a=b∧t < s) (h':b < c∨b=c∧r < t):a < c∨a=c∧r < s:=by
 rcases h with h | ⟨rfl,h⟩
 ·rcases h' with h' | ⟨rfl,_⟩
  ·exact .inl (Nat.lt_trans h h')
  ·exact .inl h
 ·rcases h' with h' | ⟨rfl,h'⟩
  ·exact .inl h'
  ·exact .inr ⟨rfl,Nat.lt_trans h' h⟩
theorem tag_of {s x k j:Nat} (h:s < x) (hk:k ≤ 1):s * 256 + k < x * 256 + j:=by lia
theorem tag_lt {s x k j:Nat} (h:s * 256 + k < x * 256 + j) (hj:j ≤ 1):s < x∨s=x∧k < j:=by lia
theorem Mem.sd {B:Nat} {R:List Wr} {tw:List Tw} (h:Mem B R tw):Sd tw:=by
 rintro A x Z rfl
 have hx:=h.ks x (by exact List.mem_append_right _ (.head _))
 have pw:=h.pw
 rw [List.pairwise_append,List.pairwise_cons] at pw
 refine ⟨λy hy=>(cmpT_lt (h.ks y (by simp [hy])) hx).mpr ?_,λz hz c=>?_⟩
 ·exact (pw.2.2 y hy x (.head _)).imp_right λq=>⟨q.1,tag_of q.2 (h.sq (x:=x) (List.mem_append_right _ (.head _))).2.2⟩
 ·rcases List.mem_cons.mp hz with rfl | hz
  ·rcases (cmpT_lt hx hx).mp c with c | c
   ·exact absurd c (Nat.lt_irrefl _)
   ·exact absurd c.2 (Nat.lt_irrefl _)
  ·have hm:z ∈ A ++ x :: Z:=List.mem_append_right _ (.tail _ hz)
   have q:=lex3 (pw.2.1.1 z hz) (((cmpT_lt (h.ks z hm) hx).mp c).imp_right λq=>⟨q.1,(tag_lt q.2 (h.sq hm).2.2).elim id λe=>absurd (pw.2.1.1 z hz) λw=>w.elim (λw=>absurd (q.1 ▸ w) (Nat.lt_irrefl _)) λw=>absurd (e.1 ▸ w.2) (Nat.lt_irrefl _)⟩)
   exact q.elim (λw=>absurd w (Nat.lt_irrefl _)) λw=>absurd w.2 (Nat.lt_irrefl _)
theorem Mem.ins {B:Nat} {R:List Wr} {tw:List Tw} (h:Mem B R tw) {w:Wr} (hw:w.1 ∈ KS):Ex2 λA Z=>And3 (tw=A ++ Z) ((∀ x ∈ A,cmpT x w.1 (B + R.length + 1) (wkd w) < 0)) ((∀ x ∈ Z,0 < cmpT x w.1 (B + R.length + 1) (wkd w)) ∧
  ∀ x:Tw,x.u=w.1→x.sq=B + R.length + 1→x.kd=wkd w→x.val=w.2.getD []→Mem B (w :: R) (A ++ x :: Z)):=by
 have e:=halves (p:=λx=>decide (kr x.u < kr w.1)) (λx y r c=>by simp at c ⊢;lia) h.pw
 refine ⟨_,_,e,λx hx=>?_,λx hx=>?_,λx xu xs xk xv=>⟨λy hy=>?_,?_,λv hv=>?_⟩⟩
 ·obtain ⟨hx,c⟩:=List.mem_filter.mp hx
  exact (cmpT_lt (h.ks x hx) hw).mpr (.inl (by exact of_decide_eq_true c))
 ·obtain ⟨hx,c⟩:=List.mem_filter.mp hx
  have:=h.sq hx
  simp at c
  refine (cmpT_gt (h.ks x hx) hw).mpr ?_
  lia
 ·rcases List.mem_append.mp hy with q | q
  ·exact h.ks y (List.mem_filter.mp q).1
  ·rcases List.mem_cons.mp q with rfl | q
   ·rw [xu];exact hw
   ·exact h.ks y (List.mem_filter.mp q).1
 ·have pw:=h.pw
  rw [e,List.pairwise_append] at pw
  rw [List.pairwise_append,List.pairwise_cons]
  refine ⟨pw.1,⟨λz hz=>?_,pw.2.1⟩,λy hy z hz=>?_⟩
  ·obtain ⟨hz,c⟩:=List.mem_filter.mp hz
   have:=h.sq hz
   simp at c
   rw [xu,xs]
   lia
  ·rcases List.mem_cons.mp hz with rfl | q
   ·rw [xu]
    exact .inl (by simpa using (List.mem_filter.mp hy).2)
   ·exact pw.2.2 y hy z q
 ·have en:=h.en v hv
  rw [e,List.filter_append] at en
  rw [List.filter_append]
  unfold ents
  by_cases c:w.1=v
  ·have eA:(tw.filter λx=>decide (kr x.u < kr w.1)).filter (isU v) = []:=List.filter_eq_nil_iff.mpr λy hy q=>by
    have q1:=of_decide_eq_true q
    have:=(List.mem_filter.mp hy).2
    rw [q1,c] at this
    simp at this
   rw [eA,List.nil_append] at en ⊢
   rw [if_pos c,List.filter_cons_of_pos (by unfold isU;rw [xu];exact decide_eq_true c),List.map_cons,en]
   unfold ent
   rw [xs,xk,xv]
  ·rw [if_neg c,List.filter_cons_of_neg (by unfold isU;rw [xu];simpa using c),en]
noncomputable def gt:Option Ent→List V
 | none=>[.bool false,.int 0,.bytes []]
 | some e=>[.bool true,.int e.2.1,.bytes e.2.2]
theorem find_congr {α:Type} {p q:α→Bool}:∀ {l:List α},(∀ x ∈ l,p x=q x)→l.find? p=l.find? q
 | [],_=>rfl
 | a :: l,h=>by rw [List.find?_cons,List.find?_cons,h a (.head _),find_congr λx hx=>h x (.tail _ hx)]
theorem Mem.get {B:Nat} {R:List Wr} {tw:List Tw} (h:Mem B R tw) {u:List UInt8} (hu:u ∈ KS) (sq:Nat):Ex2 λA Z=>And4 (tw=A ++ Z) ((∀ x ∈ A,cmpT x u sq 1 < 0)) ((∀ x ∈ Z,¬ cmpT x u sq 1 < 0)) (getT u Z=gt ((ents u B R).find? λe=>decide (e.1 ≤ sq))):=by
 have e:=halves (p:=λx=>decide (kr x.u < kr u∨(kr x.u=kr u∧sq < x.sq))) (λx y r c=>decide_eq_true (lex3 r (of_decide_eq_true c))) h.pw
 have eZ:∀ x ∈ tw.filter λx=>!decide (kr x.u < kr u∨(kr x.u=kr u∧sq < x.sq)),x ∈ tw∧¬ (kr x.u < kr u∨(kr x.u=kr u∧sq < x.sq)):=λx hx=>by
  obtain ⟨a,b⟩:=List.mem_filter.mp hx
  exact ⟨a,λc=>by rw [decide_eq_true c] at b;cases b⟩
 refine ⟨_,_,e,λx hx=>?_,λx hx c=>?_,?_⟩
 ·obtain ⟨hx,c⟩:=List.mem_filter.mp hx
  exact (cmpT_lt (h.ks x hx) hu).mpr ((of_decide_eq_true c).imp_right λq=>⟨q.1,tag_of q.2 (Nat.le_refl 1)⟩)
 ·obtain ⟨hx,q⟩:=eZ x hx
  exact q (((cmpT_lt (h.ks x hx) hu).mp c).imp_right λw=>⟨w.1,(tag_lt w.2 (h.sq hx).2.2).elim id λz=>absurd (h.sq hx).2.2 (Nat.not_le.mpr z.2)⟩)
 ·rw [← h.en u hu,List.find?_map]
  have pw:=h.pw.sublist (List.filter_sublist (l:=tw) (p:=λx=>!decide (kr x.u < kr u∨(kr x.u=kr u∧sq < x.sq))))
  have key:(tw.filter (isU u)).find? ((λe:Ent=>decide (e.1 ≤ sq)) ∘ ent)=(tw.filter λx=>!decide (kr x.u < kr u∨(kr x.u=kr u∧sq < x.sq))).find? (isU u):=by
   rw [List.find?_filter,List.find?_filter]
   refine find_congr λa ha=>decide_eq_decide.mpr ?_
   by_cases q:a.u=u
   ·have q1:isU u a=true:=decide_eq_true q
    rw [q1,q]
    simp [ent]
    exact decide_eq_true_iff
   ·have q1:isU u a=false:=decide_eq_false q
    rw [q1];simp
  rw [key]
  generalize hZ:(tw.filter λx=>!decide (kr x.u < kr u∨(kr x.u=kr u∧sq < x.sq)))=Z at pw eZ
  cases Z with
  | nil=>rfl
  | cons z Z =>
   obtain ⟨z1,z2⟩:=eZ z (.head _)
   rw [List.pairwise_cons] at pw
   by_cases c:z.u=u
   ·rw [List.find?_cons_of_pos (show isU u z=true from decide_eq_true c)]
    exact if_pos c
   ·have none:(z :: Z).find? (isU u)=Option.none:=by
     rw [List.find?_eq_none]
     intro y hy q
     have q:=of_decide_eq_true q
     rcases List.mem_cons.mp hy with rfl | hy
     ·exact c q
     ·have:=pw.1 y hy
      rw [q] at this
      have:kr z.u=kr u:=this.elim (λw=>absurd (.inl w) z2) (·.1)
      exact c (kr_inj _ (h.ks z z1) _ hu this)
    rw [none]
    exact if_neg c
theorem ents_cons {u:List UInt8} {B:Nat} {w:Wr} {R:List Wr}:ents u B (w :: R)=if w.1=u then (B + R.length + 1,wkd w,w.2.getD []) :: ents u B R else ents u B R:=rfl
noncomputable def atW (u:List UInt8) (W:List Wr):List V:=W.foldl (λa w=>if w.1=u then [.bool true,.int (wkd w),.bytes (w.2.getD [])] else a) [.bool false,.int 0,.bytes []]
theorem at_all {u:List UInt8} {B m:Nat}:∀ {R:List Wr},atW u (R.reverse.take m)=gt ((ents u B R).find? λe=>decide (e.1 ≤ B + m))
 | []=>by simp [atW,ents,gt]
 | w :: R=>by
  have ih:=at_all (u:=u) (B:=B) (m:=m) (R:=R)
  rw [List.reverse_cons]
  by_cases h:m ≤ R.length
  ·rw [List.take_append_of_le_length (by simpa using h),ih]
   rw [ents_cons]
   split
   ·rw [List.find?_cons_of_neg (by simp;lia)]
   ·rfl
  ·rw [List.take_of_length_le (l:=R.reverse ++ [w]) (by simp;exact Nat.not_le.mp ‹_›)]
   rw [List.take_of_length_le (l:=R.reverse) (by simp;lia)] at ih
   unfold atW at ih ⊢
   rw [List.foldl_append]
   show (if w.1=u then _ else List.foldl _ _ R.reverse)=_
   rw [ents_cons]
   split
   ·rw [List.find?_cons_of_pos (by simp;lia)];rfl
   ·exact ih
noncomputable def ffA (sq0:Nat):Option (List UInt8)→List Tw→List (List UInt8 × List UInt8)
 | _,[]=>[]
 | sk,x :: L=>if x.sq ≤ sq0∧past sk x.u=true then (if x.kd=0 then ffA sq0 (some x.u) L else (x.u,x.val) :: ffA sq0 (some x.u) L) else ffA sq0 sk L
theorem ff_cons {sq0:Nat} {sk:Option (List UInt8)} {x:Tw} {L:List Tw}:ff sq0 sk (x :: L)=if x.sq ≤ sq0∧past sk x.u=true then (if x.kd=0 then ff sq0 (some x.u) L else x :: L) else ff sq0 sk L:=rfl
theorem ffA_cons {sq0:Nat} {sk:Option (List UInt8)} {x:Tw} {L:List Tw}:ffA sq0 sk (x :: L)=if x.sq ≤ sq0∧past sk x.u=true then (if x.kd=0 then ffA sq0 (some x.u) L else (x.u,x.val) :: ffA sq0 (some x.u) L) else ffA sq0 sk L:=rfl
theorem ff_rows {sq0:Nat}:∀ {L:List Tw} {sk:Option (List UInt8)},(ff sq0 sk L = []∧ffA sq0 sk L = [])∨Ex3 λp x L'=>And3 (L=p ++ x :: L') (ff sq0 sk L=x :: L') (ffA sq0 sk L=(x.u,x.val) :: ffA sq0 (some x.u) L')
 | [],_=>.inl ⟨rfl,rfl⟩
 | x :: L,sk=>by
  rw [ff_cons,ffA_cons]
  by_cases h:x.sq ≤ sq0∧past sk x.u=true
  ·rw [if_pos h,if_pos h]
   by_cases k:x.kd=0
   ·rw [if_pos k,if_pos k]
    rcases ff_rows (L:=L) (sk:=some x.u) with q | ⟨p,y,L',e,a,b⟩
    ·exact .inl q
    ·exact .inr ⟨x :: p,y,L',by rw [e];rfl,a,b⟩
   ·rw [if_neg k,if_neg k]
    exact .inr ⟨[],x,L,rfl,rfl,rfl⟩
  ·rw [if_neg h,if_neg h]
   rcases ff_rows (L:=L) (sk:=sk) with q | ⟨p,y,L',e,a,b⟩
   ·exact .inl q
   ·exact .inr ⟨x :: p,y,L',by rw [e];rfl,a,b⟩
noncomputable def fbA (sq0:Nat):Option (List UInt8 × List UInt8)→List Tw→List (List UInt8 × List UInt8)
 | st,[]=>st.toList
 | st,x :: M=>if x.sq ≤ sq0 then (if stop st x.u=true then st.toList ++ fbA sq0 (if x.kd=0 then none else some (x.u,x.val)) M else fbA sq0 (if x.kd=0 then none else some (x.u,x.val)) M) else fbA sq0 st M
theorem fb_cons {sq0:Nat} {st:Option (List UInt8 × List UInt8)} {x:Tw} {M:List Tw}:fb sq0 st (x :: M)=if x.sq ≤ sq0 then (if stop st x.u=true then (st,x :: M) else fb sq0 (if x.kd=0 then none else some (x.u,x.val)) M) else fb sq0 st M:=rfl
theorem fbA_cons {sq0:Nat} {st:Option (List UInt8 × List UInt8)} {x:Tw} {M:List Tw}:fbA sq0 st (x :: M)=if x.sq ≤ sq0 then (if stop st x.u=true then st.toList ++ fbA sq0 (if x.kd=0 then none else some (x.u,x.val)) M else fbA sq0 (if x.kd=0 then none else some (x.u,x.val)) M) else fbA sq0 st M:=rfl
theorem fb_rows {sq0:Nat}:∀ {M:List Tw} {st:Option (List UInt8 × List UInt8)},∃ p,M=p ++ (fb sq0 st M).2∧fbA sq0 st M=(fb sq0 st M).1.toList ++ (if (fb sq0 st M).1.isSome then fbA sq0 none (fb sq0 st M).2 else [])
 | [],st=>⟨[],rfl,by unfold fb fbA;cases st <;> rfl⟩
 | x :: M,st=>by
  rw [fb_cons,fbA_cons]
  by_cases h:x.sq ≤ sq0
  ·rw [if_pos h,if_pos h]
   by_cases k:stop st x.u=true
   ·rw [if_pos k,if_pos k]
    refine ⟨[],rfl,?_⟩
    cases st with
    | none=>cases k
    | some q =>
     rw [if_pos (show (some q).isSome=true from rfl)]
     show _=_ ++ (if x.sq ≤ sq0 then (if stop none x.u=true then _ else _) else _)
     rw [if_pos h,if_neg (show ¬ stop none x.u=true from λc=>nomatch c)]
   ·rw [if_neg k,if_neg k]
    obtain ⟨p,a,b⟩:=fb_rows (M:=M) (st:=if x.kd=0 then none else some (x.u,x.val))
    exact ⟨x :: p,by rw [List.cons_append,← a],b⟩
  ·rw [if_neg h,if_neg h]
   obtain ⟨p,a,b⟩:=fb_rows (M:=M) (st:=st)
   exact ⟨x :: p,by rw [List.cons_append,← a],b⟩
noncomputable def vis (sq0:Nat) (g:List Tw):Option Tw:=g.find? λx=>decide (x.sq ≤ sq0)
theorem vis_cons {sq0:Nat} {x:Tw} {g:List Tw}:vis sq0 (x :: g)=if x.sq ≤ sq0 then some x else vis sq0 g:=by
 unfold vis
 by_cases h:x.sq ≤ sq0
 ·rw [List.find?_cons_of_pos (by exact decide_eq_true h),if_pos h]
 ·rw [List.find?_cons_of_neg (by simpa using h),if_neg h]
theorem ffA_grp {sq0:Nat} {u:List UInt8} {L:List Tw} (hu:bltB u u=false):∀ {g:List Tw} {sk:Option (List UInt8)},(∀ x ∈ g,x.u=u)→ffA sq0 sk (g ++ L)=if past sk u=true then (match vis sq0 g with
  | none=>ffA sq0 sk L
  | some x=>(if x.kd=0 then [] else [(u,x.val)]) ++ ffA sq0 (some u) L) else ffA sq0 sk L
 | [],sk,_=>by show ffA sq0 sk L=if _ then ffA sq0 sk L else _;split <;> rfl
 | x :: g,sk,h=>by
  have hx:=h x (.head _)
  have ih:=λsk=>ffA_grp (g:=g) (sk:=sk) (L:=L) (sq0:=sq0) hu λy hy=>h y (.tail _ hy)
  show (if x.sq ≤ sq0∧past sk x.u=true then (if x.kd=0 then ffA sq0 (some x.u) (g ++ L) else (x.u,x.val) :: ffA sq0 (some x.u) (g ++ L)) else ffA sq0 sk (g ++ L))=_
  rw [hx,vis_cons]
  have e1:ffA sq0 (some u) (g ++ L)=ffA sq0 (some u) L:=by rw [ih,if_neg (by show ¬ bltB u u=true;rw [hu];exact Bool.false_ne_true)]
  by_cases p:past sk u=true
  ·rw [if_pos p]
   by_cases c:x.sq ≤ sq0
   ·rw [if_pos ⟨c,p⟩,if_pos c,e1]
    dsimp only
    split <;> rfl
   ·rw [if_neg (λq=>c q.1),if_neg c,ih,if_pos p]
  ·rw [if_neg (λq=>p q.2),if_neg p,ih,if_neg p]
theorem fbA_grp {sq0:Nat} {u:List UInt8} (hu:bltB u u=false):∀ {g:List Tw} {L:List Tw} {st:Option (List UInt8 × List UInt8)},(∀ x ∈ g,x.u=u)→fbA sq0 st (g.reverse ++ L)=match vis sq0 g with
  | none=>fbA sq0 st L
  | some x=>(if stop st u=true then st.toList else []) ++ fbA sq0 (if x.kd=0 then none else some (u,x.val)) L
 | [],L,st,_=>rfl
 | x :: g,L,st,h=>by
  have hx:=h x (.head _)
  have ih:=fbA_grp (g:=g) (st:=st) (L:=x :: L) (sq0:=sq0) hu λy hy=>h y (.tail _ hy)
  rw [List.reverse_cons,List.append_assoc,List.singleton_append,ih,vis_cons]
  have step:∀ st,fbA sq0 st (x :: L)=if x.sq ≤ sq0 then (if stop st u=true then st.toList ++ fbA sq0 (if x.kd=0 then none else some (u,x.val)) L else fbA sq0 (if x.kd=0 then none else some (u,x.val)) L) else fbA sq0 st L:=λst=>by
   rw [← hx];rfl
  by_cases c:x.sq ≤ sq0
  ·rw [if_pos c]
   cases hv:vis sq0 g with
   | none =>
    dsimp only
    rw [step,if_pos c]
    split <;> rfl
   | some y =>
    dsimp only
    rw [step (if y.kd=0 then none else some (u,y.val)),if_pos c]
    have:¬ stop (if y.kd=0 then none else some (u,y.val)) u=true:=by
     split
     ·exact λq=>nomatch q
     ·show ¬ bltB u u=true
      rw [hu];exact Bool.false_ne_true
    rw [if_neg this]
  ·rw [if_neg c]
   cases hv:vis sq0 g with
   | none=>dsimp only;rw [step,if_neg c]
   | some y=>dsimp only;rw [step,if_neg c]
noncomputable def rowE (u:List UInt8):Option Ent→Option (List UInt8 × List UInt8)
 | none=>none
 | some e=>if e.2.1=1 then some (u,e.2.2) else none
noncomputable def rowsE (f:List UInt8→Option Ent):List (List UInt8 × List UInt8):=KS.filterMap λu=>rowE u (f u)
theorem Mem.groups {B:Nat} {R:List Wr} {tw:List Tw} (h:Mem B R tw):tw=tw.filter (isU []) ++ (tw.filter (isU [107]) ++ tw.filter (isU [107,0])):=by
 have k3:∀ x ∈ tw,x.u = []∨x.u = [107]∨x.u = [107,0]:=λx hx=>by simpa [KS] using h.ks x hx
 have e1:=halves (p:=λx=>decide (kr x.u < 1)) (λx y r c=>by simp at c ⊢;lia) h.pw
 have e2:=halves (p:=λx=>decide (kr x.u < 2)) (λx y r c=>by simp at c ⊢;lia) (h.pw.sublist (List.filter_sublist (l:=tw) (p:=λx=>!decide (kr x.u < 1))))
 rw [List.filter_filter,List.filter_filter] at e2
 have c1:tw.filter (λx=>decide (kr x.u < 1))=tw.filter (isU []):=List.filter_congr λx hx=>by rcases k3 x hx with q | q | q <;> (unfold isU;rw [q];decide)
 have c2:tw.filter (λx=>decide (kr x.u < 2) && !decide (kr x.u < 1))=tw.filter (isU [107]):=List.filter_congr λx hx=>by rcases k3 x hx with q | q | q <;> (unfold isU;rw [q];decide)
 have c3:tw.filter (λx=>(!decide (kr x.u < 2)) && !decide (kr x.u < 1))=tw.filter (isU [107,0]):=List.filter_congr λx hx=>by rcases k3 x hx with q | q | q <;> (unfold isU;rw [q];decide)
 rw [c1] at e1
 rw [c2,c3] at e2
 rw [← e2]
 exact e1
noncomputable def rowO (u:List UInt8):Option Tw→List (List UInt8 × List UInt8)
 | none=>[]
 | some x=>if x.kd=0 then [] else [(u,x.val)]
theorem Mem.vis {B:Nat} {R:List Wr} {tw:List Tw} (h:Mem B R tw) {u:List UInt8} (hu:u ∈ KS) (sq0:Nat):(rowE u ((ents u B R).find? λe=>decide (e.1 ≤ sq0))).toList=rowO u (vis sq0 (tw.filter (isU u))):=by
 rw [← h.en u hu,List.find?_map]
 show (rowE u ((Mine.vis sq0 (tw.filter (isU u))).map ent)).toList=_
 cases hv:Mine.vis sq0 (tw.filter (isU u)) with
 | none=>rfl
 | some x =>
  have hx:=(List.mem_filter.mp (List.mem_of_find?_eq_some hv)).1
  have:=h.sq hx
  show (if x.kd=1 then _ else _:Option _).toList=if x.kd=0 then _ else _
  by_cases c:x.kd=0
  ·rw [if_pos c,if_neg (by lia)];rfl
  ·rw [if_neg c,if_pos (by lia)];rfl
theorem rowsE_eq {B:Nat} {R:List Wr} {tw:List Tw} (h:Mem B R tw) (sq0:Nat):(rowsE λu=>(ents u B R).find? λe=>decide (e.1 ≤ sq0))=rowO [] (vis sq0 (tw.filter (isU []))) ++ (rowO [107] (vis sq0 (tw.filter (isU [107]))) ++ rowO [107,0] (vis sq0 (tw.filter (isU [107,0])))):=by
 have fm:∀ {α β:Type} (f:α→Option β) (a:α) (l:List α),(a :: l).filterMap f=(f a).toList ++ l.filterMap f:=λf a l=>by
  rw [List.filterMap_cons];cases f a <;> rfl
 unfold rowsE KS
 rw [fm,fm,fm,h.vis (by decide),h.vis (by decide),h.vis (by decide),List.filterMap_nil,List.append_nil]
theorem ffA_grp2 {sq0:Nat} {u:List UInt8} {g L:List Tw} {sk:Option (List UInt8)} (hu:bltB u u=false) (hg:∀ x ∈ g,x.u=u) (hp:past sk u=true):∃ sk',(sk'=sk∨sk'=some u)∧ffA sq0 sk (g ++ L)=rowO u (vis sq0 g) ++ ffA sq0 sk' L:=by
 rw [ffA_grp hu hg,if_pos hp]
 cases vis sq0 g with
 | none=>exact ⟨sk,.inl rfl,rfl⟩
 | some x=>exact ⟨some u,.inr rfl,rfl⟩
theorem fbA_grp2 {sq0:Nat} {u:List UInt8} {g L:List Tw} {st:Option (List UInt8 × List UInt8)} (hu:bltB u u=false) (hg:∀ x ∈ g,x.u=u) (hp:st=none∨stop st u=true) :
  Ex2 λpre st'=>And3 (fbA sq0 st (g.reverse ++ L)=pre ++ fbA sq0 st' L) (pre ++ st'.toList=st.toList ++ rowO u (vis sq0 g)) ((st'=st∨∀ q,st'=some q→q.1=u)):=by
 rw [fbA_grp hu hg]
 cases vis sq0 g with
 | none=>exact ⟨[],st,rfl,(List.append_nil _).symm,.inl rfl⟩
 | some x =>
  refine ⟨st.toList,if x.kd=0 then none else some (u,x.val),?_,?_,.inr λq hq=>?_⟩
  ·rcases hp with rfl | hp
   ·rfl
   ·dsimp only;rw [if_pos hp]
  ·unfold rowO;dsimp only;split <;> rfl
  ·split at hq
   ·cases hq
   ·cases hq;rfl
theorem Mem.fwd {B:Nat} {R:List Wr} {tw:List Tw} (h:Mem B R tw) (sq0:Nat):ffA sq0 none tw=rowsE λu=>(ents u B R).find? λe=>decide (e.1 ≤ sq0):=by
 have hg:∀ u,∀ x ∈ tw.filter (isU u),x.u=u:=λu x hx=>of_decide_eq_true (List.mem_filter.mp hx).2
 rw [rowsE_eq h]
 obtain ⟨s1,q1,e1⟩:=ffA_grp2 (sq0:=sq0) (u:=[]) (sk:=none) (L:=tw.filter (isU [107]) ++ tw.filter (isU [107,0])) (by decide) (hg []) rfl
 obtain ⟨s2,q2,e2⟩:=ffA_grp2 (sq0:=sq0) (u:=[107]) (sk:=s1) (L:=tw.filter (isU [107,0])) (by decide) (hg [107]) (by rcases q1 with rfl | rfl <;> decide)
 obtain ⟨s3,_,e3⟩:=ffA_grp2 (sq0:=sq0) (u:=[107,0]) (sk:=s2) (L:=[]) (by decide) (hg [107,0]) (by rcases q2 with rfl | rfl;(rcases q1 with rfl | rfl <;> decide);decide)
 rw [List.append_nil,show ffA sq0 s3 [] = [] from rfl,List.append_nil] at e3
 rw [← e3,← e2,← e1,← h.groups]
theorem rowO_rev {u:List UInt8} {o:Option Tw}:(rowO u o).reverse=rowO u o:=by
 cases o with
 | none=>rfl
 | some x=>unfold rowO;dsimp only;split <;> rfl
theorem Mem.bwd {B:Nat} {R:List Wr} {tw:List Tw} (h:Mem B R tw) (sq0:Nat):fbA sq0 none tw.reverse=(rowsE λu=>(ents u B R).find? λe=>decide (e.1 ≤ sq0)).reverse:=by
 have hg:∀ u,∀ x ∈ tw.filter (isU u),x.u=u:=λu x hx=>of_decide_eq_true (List.mem_filter.mp hx).2
 rw [rowsE_eq h]
 have nx:∀ {st:Option (List UInt8 × List UInt8)} {u:List UInt8},(∀ q,st=some q→bltB u q.1=true)→st=none∨stop st u=true:=fun {st u} k=>by
  cases st with
  | none=>exact .inl rfl
  | some q=>exact .inr (k q rfl)
 obtain ⟨p2,s2,e2,f2,g2⟩:=fbA_grp2 (sq0:=sq0) (u:=[107,0]) (st:=none) (L:=(tw.filter (isU [107])).reverse ++ (tw.filter (isU [])).reverse) (by decide) (hg [107,0]) (.inl rfl)
 have k2:∀ q,s2=some q→q.1 = [107,0]:=λq hq=>by
  rcases g2 with rfl | g
  ·cases hq
  ·exact g q hq
 obtain ⟨p1,s1,e1,f1,g1⟩:=fbA_grp2 (sq0:=sq0) (u:=[107]) (st:=s2) (L:=(tw.filter (isU [])).reverse) (by decide) (hg [107]) (nx λq hq=>by rw [k2 q hq];decide)
 have k1:∀ q,s1=some q→q.1 = [107,0]∨q.1 = [107]:=λq hq=>by
  rcases g1 with rfl | g
  ·exact .inl (k2 q hq)
  ·exact .inr (g q hq)
 obtain ⟨p0,s0,e0,f0,_⟩:=fbA_grp2 (sq0:=sq0) (u:=[]) (st:=s1) (L:=[]) (by decide) (hg []) (nx λq hq=>by rcases k1 q hq with e | e <;> (rw [e];decide))
 rw [List.append_nil] at e0
 rw [show fbA sq0 s0 []=s0.toList from rfl,f0] at e0
 rw [e0,← List.append_assoc,f1] at e1
 rw [e1] at e2
 have e3:∀ a b:List (List UInt8 × List UInt8),p2 ++ (s2.toList ++ a ++ b)=(p2 ++ s2.toList) ++ a ++ b:=λa b=>by simp only [List.append_assoc]
 rw [e3,f2] at e2
 rw (occs:=[1]) [h.groups]
 rw [List.reverse_append,List.reverse_append,List.append_assoc,e2,List.reverse_append,List.reverse_append,rowO_rev,rowO_rev,rowO_rev]
 rfl
noncomputable def fixd (cs ts:List Nat) (t:Nat):O→Bool
 | .list _=>!ts.contains t
 | .inst c _=>!cs.contains c
 | _=>true
noncomputable def Md (cs ts:List Nat) (T:Nat→Nat) (H H':Hp):Prop:=H.length ≤ H'.length∧∀ (i:Nat) (o:O),H[i]?=some o→fixd cs ts (T i) o=true→H'[i]?=some o
theorem Md.pre {cs ts:List Nat} {T:Nat→Nat} {H H':Hp} (p:H <+: H'):Md cs ts T H H':=⟨p.length_le,λ_ _ q _=>get_pre p q⟩
theorem Md.trans {cs ts:List Nat} {T T':Nat→Nat} {H H' H'':Hp} (a:Md cs ts T H H') (e:∀ i,i < H.length→T' i=T i) (b:Md cs ts T' H' H''):Md cs ts T H H'' :=
 ⟨Nat.le_trans a.1 b.1,λi o q z=>b.2 i o (a.2 i o q z) (by rw [e i (lt_of_get q)];exact z)⟩
theorem Md.trans' {cs ts:List Nat} {T:Nat→Nat} {H H' H'':Hp} (a:Md cs ts T H H') (b:Md cs ts T H' H''):Md cs ts T H H'':=a.trans (λ_ _=>rfl) b
theorem Md.set {cs ts:List Nat} {T:Nat→Nat} {H:Hp} {i:Nat} {o o':O} (h:H[i]?=some o) (ho:fixd cs ts (T i) o=false):Md cs ts T H (H.set i o'):=⟨by simp,λj q hq z=>get_set_ne hq λe=>by
 rw [e,h] at hq
 cases hq
 rw [e,ho] at z;cases z⟩
theorem Md.mono {cs ts cs' ts':List Nat} {T:Nat→Nat} {H H':Hp} (h:Md cs ts T H H') (e:∀ t o,fixd cs' ts' t o=true→fixd cs ts t o=true):Md cs' ts' T H H':=⟨h.1,λi o q z=>h.2 i o q (e _ _ z)⟩
noncomputable def wv:Option (List UInt8)→V
 | none=>.none
 | some v=>.bytes v
structure Bo where
 rb:Nat
 rt:Nat
 ro:Nat
 rk:Nat
 hd:Tw
 hp:Nat
 rl:Nat
 rw:Nat
 rm:Nat
 rs:Nat
 rh:Nat
 B:Nat
 la:Nat
 ms:List Nat
 wr:List Nat
 tw:List Tw
 ht:Nat
 ad:Nat
 wg:Int
 R:List Wr
 S:List Int
 h:List Nat
noncomputable def bookO (b:Bo):O:=.dict [(74,.ref b.rt),(79,.ref b.rl),(76,.int b.B),(73,.ref b.rw),(3,.ref b.rm),(78,.ref b.rs),(77,.ref b.rh)]
structure BkT (H:Hp) (T:Nat→Nat) (b:Bo):Prop where
 tb:H[b.rt]?=some (tabO b.ro b.rk b.wg)
 sk:SkAt H b.rk b.hd b.tw b.ht b.ad b.ro b.hp
 me:Mem b.B b.R b.tw
 tg:∀ x ∈ b.hd :: b.tw,T x.lk=3
structure BkM (H:Hp) (T:Nat→Nat) (b:Bo):Prop where
 ml:H[b.rl]?=some (mlO b.la b.S.length)
 la:H[b.la]?=some (.list (b.h.map λk=>.ref (b.ms.getD k 0)))
 len:b.ms.length=b.S.length
 mo:∀ (k a:Nat) (s:Int),b.ms[k]?=some a→b.S[k]?=some s→H[a]?=some (markO ((k:Int) + 1) s (decide (k ∈ b.h)))
 nd:b.ms.Nodup
 hs:b.h.Pairwise (· < ·)
 hl:∀ k ∈ b.h,k < b.S.length
 tg:T b.la=5
structure BkL (H:Hp) (T:Nat→Nat) (b:Bo):Prop where
 ob:H[b.rb]?=some (bookO b)
 ow:H[b.rw]?=some (.list (b.wr.map .ref))
 wl:b.wr.length=b.R.length
 wr:∀ (i a:Nat) (w:Wr),b.wr[i]?=some a→b.R.reverse[i]?=some w→H[a]?=some (.tuple [.bytes w.1,wv w.2])
 om:H[b.rm]?=some (.list (b.ms.map .ref))
 os:H[b.rs]?=some (.list (b.S.map .int))
 oh:H[b.rh]?=some (.list (b.h.map fun (k:Nat)=>.int k))
 tg:T b.rw=7∧T b.rm=8∧T b.rs=9∧T b.rh=10
structure BkN (b:Bo):Prop where
 sb:∀ s ∈ b.S,(b.B:Int) ≤ s∧s ≤ (b.B + b.R.length:Nat)
 ks:∀ w ∈ b.R,w.1 ∈ KS
 bd:b.B ≤ 72057594037927900
 rl:b.R.length ≤ 35
 sl:b.S.length ≤ 1000000
 tl:b.tw.length ≤ b.R.length
structure Bk (H:Hp) (T:Nat→Nat) (b:Bo):Prop where
 t:BkT H T b
 m:BkM H T b
 l:BkL H T b
 n:BkN b
 z:∀ i,H.length ≤ i→T i=0
section
variable {H H':Hp} {T T':Nat→Nat} {b:Bo} {cs ts:List Nat}
theorem BkT.md (h:BkT H T b) (p:Md cs ts T H H') (e:∀ i,i < H.length→T' i=T i) (c:(cs.contains 17 || cs.contains 16 || cs.contains 15 || cs.contains 13 || cs.contains 12 || ts.contains 3)=false):BkT H' T' b:=by
 simp only [Bool.or_eq_false_iff] at c
 obtain ⟨⟨⟨⟨⟨c17,c16⟩,c15⟩,c13⟩,c12⟩,c3⟩:=c
 obtain ⟨r2,o1,o2⟩:=h.sk.ord
 have lk:∀ x ∈ b.hd :: b.tw,T x.lk=3:=h.tg
 have s:=h.sk
 refine ⟨p.2 _ _ h.tb (by show (!cs.contains 17)=true;rw [c17];rfl),⟨p.2 _ _ s.obj (by show (!cs.contains 16)=true;rw [c16];rfl),⟨r2,p.2 _ _ o1 (by show (!cs.contains 13)=true;rw [c13];rfl),p.2 _ _ o2 (by show (!cs.contains 12)=true;rw [c12];rfl)⟩,p.2 _ _ s.hts rfl,
  s.sk.mono (λy hy o q=>p.2 _ _ q ?_) (λy hy o q=>p.2 _ _ q ?_),s.hh,s.top,s.hi,s.key,s.len,s.nd⟩,h.me,λx hx=>?_⟩
 ·rw [(s.sk.lkAt hy).1] at q
  cases q
  show (!cs.contains 15)=true;rw [c15];rfl
 ·obtain ⟨_,l,z⟩:=s.sk.lkAt hy
  rw [z] at q
  cases q
  show (!ts.contains (T y.lk))=true;rw [lk y hy,c3];rfl
 ·obtain ⟨_,l,z⟩:=s.sk.lkAt hx
  rw [e _ (lt_of_get z),lk x hx]
theorem BkM.md (h:BkM H T b) (p:Md cs ts T H H') (e:∀ i,i < H.length→T' i=T i) (c:(cs.contains 10 || cs.contains 9 || ts.contains 5)=false):BkM H' T' b:=by
 simp only [Bool.or_eq_false_iff] at c
 obtain ⟨⟨c10,c9⟩,c5⟩:=c
 exact ⟨p.2 _ _ h.ml (by show (!cs.contains 10)=true;rw [c10];rfl),p.2 _ _ h.la (by show (!ts.contains (T b.la))=true;rw [h.tg,c5];rfl),h.len,λk a s ha hs=>p.2 _ _ (h.mo k a s ha hs) (by show (!cs.contains 9)=true;rw [c9];rfl),h.nd,h.hs,h.hl,by rw [e _ (lt_of_get h.la),h.tg]⟩
theorem BkL.md (h:BkL H T b) (p:Md cs ts T H H') (e:∀ i,i < H.length→T' i=T i) (c:(ts.contains 7 || ts.contains 8 || ts.contains 9 || ts.contains 10)=false):BkL H' T' b:=by
 simp only [Bool.or_eq_false_iff] at c
 obtain ⟨⟨⟨c7,c8⟩,c9⟩,c10⟩:=c
 obtain ⟨t7,t8,t9,t10⟩:=h.tg
 exact ⟨p.2 _ _ h.ob rfl,p.2 _ _ h.ow (by show (!ts.contains (T b.rw))=true;rw [t7,c7];rfl),h.wl,λi a w ha hw=>p.2 _ _ (h.wr i a w ha hw) rfl,p.2 _ _ h.om (by show (!ts.contains (T b.rm))=true;rw [t8,c8];rfl),
  p.2 _ _ h.os (by show (!ts.contains (T b.rs))=true;rw [t9,c9];rfl),p.2 _ _ h.oh (by show (!ts.contains (T b.rh))=true;rw [t10,c10];rfl),
  by rw [e _ (lt_of_get h.ow),e _ (lt_of_get h.om),e _ (lt_of_get h.os),e _ (lt_of_get h.oh)];exact h.tg⟩
theorem Bk.md (h:Bk H T b) (p:Md [18,19] [] T H H'):Bk H' T b :=
 ⟨h.t.md p (λ_ _=>rfl) rfl,h.m.md p (λ_ _=>rfl) rfl,h.l.md p (λ_ _=>rfl) rfl,h.n,λi hi=>h.z i (Nat.le_trans p.1 hi)⟩
theorem Bk.pre (h:Bk H T b) (p:H <+: H'):Bk H' T b:=h.md (Md.pre p)
end
structure St (H:Hp) (T:Nat→Nat) (H':Hp) (T':Nat→Nat):Prop where
 e:∀ i,i < H.length→T' i=T i
 m:Md [9,10,16,17,18,19] [3,5,7,8,9,10] T H H'
theorem St.trans {H H' H'':Hp} {T T' T'':Nat→Nat} (a:St H T H' T') (b:St H' T' H'' T''):St H T H'' T'' :=
 ⟨λi hi=>by rw [b.e i (Nat.lt_of_lt_of_le hi a.m.1),a.e i hi],a.m.trans a.e b.m⟩
theorem St.pre {H H':Hp} {T:Nat→Nat} (p:H <+: H'):St H T H' T:=⟨λ_ _=>rfl,Md.pre p⟩
theorem St.of {cs ts:List Nat} {H H':Hp} {T T':Nat→Nat} (e:∀ i,i < H.length→T' i=T i) (p:Md cs ts T H H') (c:(cs.all λc=>[9,10,16,17,18,19].contains c)=true) (t:(ts.all λt=>[3,5,7,8,9,10].contains t)=true):St H T H' T' :=
 ⟨e,p.mono λt' o h=>by
  cases o with
  | list l =>
   show (!ts.contains t')=true
   cases q:ts.contains t' with
   | false=>rfl
   | true =>
    have:=List.all_eq_true.mp t t' (by simpa using q)
    rw [show fixd _ _ t' (.list l) = !([3,5,7,8,9,10]:List Nat).contains t' from rfl,this] at h
    cases h
  | inst k fs =>
   show (!cs.contains k)=true
   cases q:cs.contains k with
   | false=>rfl
   | true =>
    have:=List.all_eq_true.mp c k (by simpa using q)
    rw [show fixd _ _ t' (.inst k fs) = !([9,10,16,17,18,19]:List Nat).contains k from rfl,this] at h
    cases h
  | _=>rfl⟩
theorem St.keep {H H':Hp} {T T':Nat→Nat} (s:St H T H' T') {i:Nat} {o:O} (h:H[i]?=some o) (ht:T i=0) (hk:fixd [9,10,16,17,18,19] [3,5,7,8,9,10] 0 o=true):H'[i]?=some o∧T' i=0 :=
 ⟨s.m.2 i o h (by rw [ht];exact hk),by rw [s.e i (lt_of_get h),ht]⟩
theorem key_of {H:Hp} {i n:Nat} {fs:List (Nat × V)} {v:V} (h:H[i]?=some (.dict fs)) (hg:getF n fs=some v):keyOf (.ref i) n H=some v:=by
 unfold keyOf;dsimp only;rw [h];exact hg
theorem ints_map (l:List Int):ints? (l.map .int)=some l:=by
 induction l with
 | nil=>rfl
 | cons a l ih=>simp only [List.map_cons,ints?,ih,Option.map_some]
theorem cap_le {n:Nat} (h:n ≤ 1000000):n < capL:=by unfold capL;exact Nat.lt_of_le_of_lt ‹_› (by decide)
structure Fx (b b':Bo):Prop where
 rb:b'.rb=b.rb
 rh:b'.rh=b.rh
 rl:b'.rl=b.rl
 B:b'.B=b.B
theorem Fx.refl (b:Bo):Fx b b:=⟨rfl,rfl,rfl,rfl⟩
theorem Fx.trans {a b c:Bo} (h:Fx a b) (k:Fx b c):Fx a c:=⟨k.rb.trans h.rb,k.rh.trans h.rh,k.rl.trans h.rl,k.B.trans h.B⟩
section
variable {H:Hp} {T:Nat→Nat} {b:Bo} {n:Nat}
theorem Bk.capS (k:Bk H T b):b.S.length < capL:=cap_le k.n.sl
theorem up_len {n:Nat}:∀ {l:List Nat} {lo:Nat},l.Pairwise (· < ·)→(∀ x ∈ l,lo ≤ x∧x < n)→l.length ≤ n - lo
 | [],_,_,_=>Nat.zero_le _
 | x :: l,lo,h,hl=>by
  rw [List.pairwise_cons] at h
  have:=up_len (lo:=x + 1) h.2 λy hy=>⟨h.1 y hy,(hl y (.tail _ hy)).2⟩
  have:=hl x (.head _)
  rw [List.length_cons];lia
theorem Bk.hS (k:Bk H T b):b.h.length ≤ b.S.length:=up_len (lo:=0) k.m.hs λx hx=>⟨Nat.zero_le _,k.m.hl x hx⟩
theorem Bk.caph (k:Bk H T b):b.h.length < capL:=Nat.lt_of_le_of_lt k.hS k.capS
theorem Bk.mark (k:Bk H T b) {j:Nat} (hj:j < b.S.length):Ex2 λa s=>And4 (b.ms[j]?=some a) (b.ms.getD j 0=a) (b.S[j]?=some s) (H[a]?=some (markO ((j:Int) + 1) s (decide (j ∈ b.h)))):=by
 have hm:j < b.ms.length:=by rw [k.m.len];exact hj
 refine ⟨b.ms[j],b.S[j],by simp [hm],by simp [List.getD_eq_getElem?_getD,hm],by simp [hj],k.m.mo j _ _ (by simp [hm]) (by simp [hj])⟩
theorem Bk.last (k:Bk H T b):b.h = []∨Ex4 fun (h':List Nat) (j a:Nat) (s:Int)=>And4 (b.h=h' ++ [j]) ((b.h.map λk=>V.ref (b.ms.getD k 0))=(h'.map λk=>V.ref (b.ms.getD k 0)) ++ [.ref a]) (b.S[j]?=some s) (H[a]?=some (markO ((j:Int) + 1) s true)):=by
 rcases List.eq_nil_or_concat b.h with h | ⟨h',j,h⟩
 ·exact .inl h
 ·rw [List.concat_eq_append] at h
  have hj:j ∈ b.h:=by rw [h];simp
  obtain ⟨a,s,_,h2,h3,h4⟩:=k.mark (k.m.hl j hj)
  refine .inr ⟨h',j,a,s,h,by rw [h,List.map_append,List.map_singleton,h2],h3,by rw [decide_eq_true hj] at h4;exact h4⟩
noncomputable def letIt (b:Bo) (sq:Int):Bool:=match b.h.getLast? with
 | none=>true
 | some j=>decide (b.S.getD j 0 ≤ sq)
noncomputable def Bo.more (b:Bo) (a:Nat) (sq:Int):Bo:={ b with ms:=b.ms ++ [a],S:=b.S ++ [sq],h:=b.h ++ [b.S.length] }
theorem Bk.addM (k:Bk H T b) {sq:Int} (hs:(b.B:Int) ≤ sq∧sq ≤ (b.B + b.R.length:Nat)) (hl:b.S.length + 1 ≤ 1000000) {H':Hp} {a:Nat} (ha:H.length ≤ a) (md:Md [10] [5,8,9,10] T H H') (ml:H'[b.rl]?=some (mlO b.la (b.S.length + 1)))
  (la:H'[b.la]?=some (.list ((b.h.map λk=>V.ref (b.ms.getD k 0)) ++ [.ref a]))) (mo:H'[a]?=some (markO ((b.S.length:Int) + 1) sq true)) (om:H'[b.rm]?=some (.list (b.ms.map .ref ++ [.ref a]))) (os:H'[b.rs]?=some (.list (b.S.map .int ++ [.int sq])))
  (oh:H'[b.rh]?=some (.list ((b.h.map fun (k:Nat)=>V.int k) ++ [.int (b.S.length:Nat)]))):Bk H' T (b.more a sq):=by
 have e0:∀ i,i < H.length→T i=T i:=λ_ _=>rfl
 have mlt:∀ x ∈ b.ms,x < H.length:=λx hx=>by
  obtain ⟨j,hj,rfl⟩:=List.getElem_of_mem hx
  have:=k.m.mo j b.ms[j] (b.S[j]'(by rw [← k.m.len];exact hj)) (by simp [hj]) (by rw [k.m.len] at hj;simp [hj])
  exact lt_of_get this
 have t:=k.t.md md e0 rfl
 have l:=k.l
 refine ⟨⟨t.tb,t.sk,t.me,t.tg⟩,⟨?_,?_,?_,λj x s hx hsj=>?_,?_,?_,λj hj=>?_,k.m.tg⟩,⟨md.2 _ _ l.ob rfl,md.2 _ _ l.ow (by show (!([5,8,9,10]:List Nat).contains (T b.rw))=true;rw [l.tg.1];rfl),l.wl,λi x w hx hw=>md.2 _ _ (l.wr i x w hx hw) rfl,?_,?_,?_,l.tg⟩,⟨λs hs'=>?_,k.n.ks,k.n.bd,k.n.rl,?_,k.n.tl⟩,λi hi=>k.z i (Nat.le_trans md.1 hi)⟩
 ·refine ml.trans ?_;show _=some (mlO b.la ((b.S ++ [sq]).length:Nat));rw [List.length_append];rfl
 ·refine la.trans (congrArg (λz=>some (O.list z)) ?_)
  show _=(b.h ++ [b.S.length]).map _
  rw [List.map_append,List.map_singleton]
  congr 1
  ·refine List.map_congr_left λj hj=>?_
   have:=k.m.hl j hj
   show V.ref (b.ms.getD j 0)=V.ref ((b.ms ++ [a]).getD j 0)
   rw [List.getD_eq_getElem?_getD,List.getD_eq_getElem?_getD,List.getElem?_append_left (by rw [k.m.len];exact this)]
  ·show [V.ref a] = [V.ref ((b.ms ++ [a]).getD b.S.length 0)]
   rw [List.getD_eq_getElem?_getD,← k.m.len];simp
 ·show (b.ms ++ [a]).length=(b.S ++ [sq]).length
  rw [List.length_append,List.length_append,k.m.len];rfl
 ·have hx:(b.ms ++ [a])[j]?=some x:=hx
  have hsj:(b.S ++ [sq])[j]?=some s:=hsj
  show _=some (markO _ s (decide (j ∈ b.h ++ [b.S.length])))
  rcases Nat.lt_or_ge j b.S.length with q | q
  ·rw [List.getElem?_append_left (by rw [k.m.len];exact q)] at hx
   rw [List.getElem?_append_left q] at hsj
   rw [show (decide (j ∈ b.h ++ [b.S.length]))=decide (j ∈ b.h) from decide_eq_decide.mpr (by simp;lia)]
   exact md.2 _ _ (k.m.mo j x s hx hsj) rfl
  ·have hj:j=b.S.length:=by
    have:=(List.getElem?_eq_some_iff.mp hsj).1
    rw [List.length_append,List.length_singleton] at this;lia
   subst hj
   rw [← k.m.len] at hx
   simp at hx hsj
   subst hx hsj
   rw [mo];simp
 ·show (b.ms ++ [a]).Nodup
  rw [List.nodup_append]
  exact ⟨k.m.nd,by simp,λx hx y hy e=>by
   have:=mlt x hx
   simp at hy;lia⟩
 ·show (b.h ++ [b.S.length]).Pairwise _
  rw [List.pairwise_append]
  exact ⟨k.m.hs,by simp,λx hx y hy=>by simp at hy;rw [hy];exact k.m.hl x hx⟩
 ·show j < (b.S ++ [sq]).length
  rw [List.length_append,List.length_singleton]
  rcases List.mem_append.mp hj with q | q
  ·have:=k.m.hl j q;exact Nat.lt_succ_of_lt ‹_›
  ·simp at q;lia
 ·refine om.trans ?_;show _=some (O.list ((b.ms ++ [a]).map _));rw [List.map_append];rfl
 ·refine os.trans ?_;show _=some (O.list ((b.S ++ [sq]).map _));rw [List.map_append];rfl
 ·refine oh.trans ?_;show _=some (O.list ((b.h ++ [b.S.length]).map _));rw [List.map_append];rfl
 ·rcases List.mem_append.mp hs' with q | q
  ·exact k.n.sb s q
  ·simp at q;rw [q];exact hs
 ·show (b.S ++ [sq]).length ≤ _
  rw [List.length_append];exact hl
end
structure Post (H:Hp) (T:Nat→Nat) (b:Bo) (H':Hp) (T':Nat→Nat) (b':Bo):Prop where
 k:Bk H' T' b'
 s:St H T H' T'
 f:Fx b b'
theorem Post.trans {H H' H'':Hp} {T T' T'':Nat→Nat} {b b' b'':Bo} (p:Post H T b H' T' b') (q:Post H' T' b' H'' T'' b''):Post H T b H'' T'' b'':=⟨q.k,p.s.trans q.s,p.f.trans q.f⟩
section
variable {H:Hp} {T:Nat→Nat} {b:Bo} {n:Nat}
theorem letIt_nil (h:b.h = []) (sq:Int):letIt b sq=true:=by unfold letIt;rw [h];rfl
theorem letIt_last {h':List Nat} {j:Nat} {s:Int} (h:b.h=h' ++ [j]) (hs:b.S[j]?=some s) (sq:Int):letIt b sq=decide (s ≤ sq):=by
 unfold letIt
 rw [h,List.getLast?_concat]
 dsimp only
 rw [List.getD_eq_getElem?_getD,hs];rfl
theorem add_right (k:Bk H T b) (sq:Int) {s2 s3:Option V} {call:CallF}:EV call (.or (.cmp .eq (.len (.var 2)) (.int 0)) (.cmp .le (.idx (.key (.var 0) 78) (.idx (.var 2) (.neg 1))) (.var 1))) [some (.ref b.rb),some (.int sq),some (.ref b.rh),s2,s3] H (.bool (letIt b sq)) H:=by
 have l:=k.l
 have hl:lenOf (.ref b.rh) H=some b.h.length:=by rw [lenL l.oh (by simpa using k.caph)];simp
 rcases k.last with e | ⟨h',j,a,s,e,_,hs,_⟩
 ·rw [letIt_nil e]
  exact ev_or_t (ev_cmp (ev_len (ev_var rfl) hl) ev_int (by rw [e];rfl)) rfl
 ·rw [letIt_last e hs]
  have e2:(b.h.map fun (k:Nat)=>V.int k)[h'.length]?=some (.int (j:Nat)):=by rw [e];simp
  refine ev_or_f (ev_cmp (ev_len (ev_var rfl) hl) ev_int (c:=false) ?_) rfl (ev_cmp (ev_idx (ev_key (ev_var rfl) (key_of l.ob rfl)) (ev_idx (ev_var rfl) ev_neg (idxN (i:=h'.length) l.oh (by simpa using k.caph) (by decide) (by rw [e];simp;lia) e2)) (idxL (i:=j) l.os (by simpa using k.capS) rfl (v:=.int s) (by simp [hs]))) (ev_var rfl) rfl)
  rw [e]
  show some ((((h' ++ [j]).length:Nat):Int) == 0)=some false
  rw [List.length_append]
  simp;lia
theorem l_add (k:Bk H T b) {sq:Int} (hs:letIt b sq=true→(b.B:Int) ≤ sq∧sq ≤ (b.B + b.R.length:Nat)) (hl:b.S.length + 1 ≤ 1000000) :
  Ex2 λH' b'=>And3 (run thePrg (n + 3) 62 [.ref b.rb,.int sq] H = .val (.bool true) H') (Post H T b H' T b') ((if letIt b sq then ∃ a,b'=b.more a sq else b'=b)):=by
 have k0:=k.pre (pre1 (G:=[O.frame]))
 have l:=k0.l
 have e2:EX (run thePrg (n + 2)) (.assign 2 (.key (.var 0) 77)) [some (.ref b.rb),some (.int sq),none,none,none] (H ++ [.frame]) (.nx [some (.ref b.rb),some (.int sq),some (.ref b.rh),none,none] (H ++ [.frame])) :=
  ex_assign (ev_key (ev_var rfl) (key_of l.ob rfl))
 have e3:=ex_assign (x:=3) (add_right k0 sq (call:=run thePrg (n + 2)) (s2:=none) (s3:=none))
 have lc:(b.h.map λk=>V.ref (b.ms.getD k 0)).length < capL:=by (rw [List.length_map];exact k.caph)
 have ho:EV (run thePrg (n + 2)) (.key (.var 0) 79) [some (.ref b.rb),some (.int sq),some (.ref b.rh),some (.bool (letIt b sq)),none] (H ++ [.frame]) (.ref b.rl) (H ++ [.frame]):=ev_key (ev_var rfl) (key_of l.ob rfl)
 have hm:methOf thePrg (.ref b.rl) 75 (H ++ [.frame])=some 3:=meth_at k0.m.ml rfl rfl
 cases hc:letIt b sq with
 | false =>
  rw [hc] at e3 ho
  rcases k0.last with e | ⟨h',j,a,s,e,e',h1,h2⟩
  ·rw [letIt_nil e] at hc;cases hc
  ·rw [letIt_last e h1] at hc
   have st:=c_mlAdd_stale (n:=n + 1) (sq:=sq) k0.m.ml (by rw [← e'];exact k0.m.la) (by rw [← e'];exact lc) h2 (Int.not_le.mp (of_decide_eq_false hc))
   refine ⟨_,b,run_ret (D:=⟨2,5,b_law_add,[]⟩) rfl rfl rfl (exs_nx e2 (exs_nx e3 (exs_ret (ex_tryA_ret ho hm (evs_cons (ev_var rfl) evs_nil) st (ev_not (ev_var rfl) rfl rfl))))),⟨k0.pre pre1,(St.pre pre1).trans (St.pre pre1),Fx.refl b⟩,rfl⟩
 | true =>
  rw [hc] at e3 ho
  have e4:=c_mlAdd (n:=n) (sq:=sq) k0.m.ml k0.m.la lc (by
   rcases k0.last with e | ⟨h',j,a,s,e,e',h1,h2⟩
   ·exact tv_stale0 (get_app k0.m.ml) (get_app (by have:=k0.m.la;rw [e] at this;exact this))
   ·rw [letIt_last e h1] at hc
    exact tv_stale (get_app k0.m.ml) (get_app (by rw [← e'];exact k0.m.la)) (by rw [← e'];exact lc) (get_app h2) (decide_eq_false (Int.not_lt.mpr (of_decide_eq_true hc))))
  generalize ha:(H ++ [O.frame]).length + 1=a at e4
  generalize hH1:(((H ++ [O.frame]).set b.rl (mlO b.la (b.S.length + 1))).set b.la (.list ((b.h.map λk=>V.ref (b.ms.getD k 0)) ++ [.ref a]))) ++ [.frame,markO (b.S.length + 1) sq true,.frame]=H1 at e4
  have ne:b.la ≠ b.rl:=λq=>by have:=k0.m.la;rw [q,k0.m.ml] at this;cases this
  have m1:Md [10] [5,8,9,10] T (H ++ [.frame]) H1:=by
   rw [← hH1]
   refine (Md.set (o':=mlO b.la (b.S.length + 1)) k0.m.ml rfl).trans' ((Md.set (get_set_ne k0.m.la ne) ?_).trans' (Md.pre pre1))
   show (!([5,8,9,10]:List Nat).contains (T b.la))=false
   rw [k0.m.tg];rfl
  have oml:H1[b.rl]?=some (mlO b.la (b.S.length + 1)):=by rw [← hH1];exact get_app (get_set_ne (get_set_eq k0.m.ml) (Ne.symm ne))
  have ola:H1[b.la]?=some (.list ((b.h.map λk=>V.ref (b.ms.getD k 0)) ++ [.ref a])):=by rw [← hH1];exact get_app (get_set_eq (get_set_ne k0.m.la ne))
  have omo:H1[a]?=some (markO (b.S.length + 1) sq true):=by
   rw [← hH1,← ha,List.getElem?_append_right (by simp)]
   simp
  obtain ⟨t7,t8,t9,t10⟩:=l.tg
  have m1':Md [10] [5] T (H ++ [.frame]) H1:=by
   rw [← hH1]
   refine (Md.set (o':=mlO b.la (b.S.length + 1)) k0.m.ml rfl).trans' ((Md.set (get_set_ne k0.m.la ne) ?_).trans' (Md.pre pre1))
   show (!([5]:List Nat).contains (T b.la))=false
   rw [k0.m.tg];rfl
  have l1:=l.md m1' (λ_ _=>rfl) rfl
  have hh:H1[b.rh]?=some (.list (b.h.map fun (k:Nat)=>V.int k)):=l1.oh
  have hne:∀ i j:Nat,T i ≠ T j→i ≠ j:=λi j h e=>h (by rw [e])
  have n1:b.rm ≠ b.rh:=hne _ _ (by rw [t8,t10];decide)
  have n2:b.rs ≠ b.rh:=hne _ _ (by rw [t9,t10];decide)
  have n3:b.rs ≠ b.rm:=hne _ _ (by rw [t9,t8];decide)
  have h2:=get_set_ne (o':=O.list ((b.h.map fun (k:Nat)=>V.int k) ++ [.int (b.S.length:Nat)])) l1.om n1
  have h2b:=get_set_ne (o':=O.list ((b.h.map fun (k:Nat)=>V.int k) ++ [.int (b.S.length:Nat)])) l1.ob (i:=b.rh) λq=>by have:=l1.ob;rw [q,hh] at this;cases this
  have h2s:=get_set_ne (o':=O.list ((b.h.map fun (k:Nat)=>V.int k) ++ [.int (b.S.length:Nat)])) l1.os n2
  have h3b:=get_set_ne (o':=O.list (b.ms.map V.ref ++ [.ref a])) h2b (i:=b.rm) λq=>by rw [q,h2] at h2b;cases h2b
  have h3s:=get_set_ne (o':=O.list (b.ms.map V.ref ++ [.ref a])) h2s n3
  have cm:(b.ms.map V.ref).length < capL:=by rw [List.length_map,k.m.len];exact k.capS
  have hlen:lenOf (.ref b.rm) H1=some b.S.length:=by rw [lenL l1.om cm,List.length_map,k.m.len]
  refine ⟨_,b.more a sq,run_ret (D:=⟨2,5,b_law_add,[]⟩) rfl rfl rfl (exs_nx e2 (exs_nx e3 (exs_nx (ex_tryA_val ho hm (evs_cons (ev_var rfl) evs_nil) e4)
   (exs_nx (ex_expr (ev_append (ev_var rfl) (isL_of hh) (ev_len (ev_key (ev_var rfl) (key_of l1.ob rfl)) hlen) hh (by simpa using k.caph)) rfl)
    (exs_nx (ex_expr (ev_append (ev_key (ev_var rfl) (key_of h2b rfl)) (isL_of h2) (ev_var rfl) h2 cm) rfl)
     (exs_nx (ex_expr (ev_append (ev_key (ev_var rfl) (key_of h3b rfl)) (isL_of h3s) (ev_var rfl) h3s (by simpa using k.capS)) rfl) (exs_ret (ex_ret (ev_var rfl))))))))),?_,a,rfl⟩
  have tg:∀ i t,T i=t→([5,8,9,10]:List Nat).contains t=true→∀ o:List V,fixd [10] [5,8,9,10] (T i) (.list o)=false:=λi t h c o=>by
   show (!([5,8,9,10]:List Nat).contains (T i))=false
   rw [h,c];rfl
  have md:Md [10] [5,8,9,10] T (H ++ [.frame]) (((H1.set b.rh (.list ((b.h.map fun (k:Nat)=>V.int k) ++ [.int (b.S.length:Nat)]))).set b.rm (.list (b.ms.map V.ref ++ [.ref a]))).set b.rs (.list (b.S.map V.int ++ [.int sq]))) :=
   m1.trans' ((Md.set hh (tg _ _ t10 rfl _)).trans' ((Md.set h2 (tg _ _ t8 rfl _)).trans' (Md.set h3s (tg _ _ t9 rfl _))))
  have keep:∀ i o,H1[i]?=some o→i ≠ b.rh→i ≠ b.rm→i ≠ b.rs→(((H1.set b.rh (.list ((b.h.map fun (k:Nat)=>V.int k) ++ [.int (b.S.length:Nat)]))).set b.rm (.list (b.ms.map V.ref ++ [.ref a]))).set b.rs (.list (b.S.map V.int ++ [.int sq])))[i]?=some o :=
   λi o q c1 c2 c3=>get_set_ne (get_set_ne (get_set_ne q c1) c2) c3
  have lne:∀ i,T i=5→i ≠ b.rh∧i ≠ b.rm∧i ≠ b.rs:=λi h=>⟨hne _ _ (by rw [h,t10];decide),hne _ _ (by rw [h,t8];decide),hne _ _ (by rw [h,t9];decide)⟩
  have kne:∀ i o,H1[i]?=some o→(∀ l,o ≠ .list l)→i ≠ b.rh∧i ≠ b.rm∧i ≠ b.rs:=λi o q c=>⟨λe=>by rw [e,hh] at q;exact c _ (Option.some.inj q).symm,λe=>by rw [e,l1.om] at q;exact c _ (Option.some.inj q).symm,λe=>by rw [e,l1.os] at q;exact c _ (Option.some.inj q).symm⟩
  obtain ⟨x1,x2,x3⟩:=kne _ _ oml (λ_ q=>nomatch q)
  obtain ⟨y1,y2,y3⟩:=lne _ k0.m.tg
  obtain ⟨z1,z2,z3⟩:=kne _ _ omo (λ_ q=>nomatch q)
  refine ⟨k0.addM (hs hc) hl (by rw [← ha];exact Nat.le_add_right _ _) md (keep _ _ oml x1 x2 x3) (keep _ _ ola y1 y2 y3) (keep _ _ omo z1 z2 z3) (get_set_ne (get_set_eq h2) (Ne.symm n3)) (get_set_eq h3s) (get_set_ne (get_set_ne (get_set_eq hh) (Ne.symm n1)) (Ne.symm n2)),
   (St.pre pre1).trans (St.of (λ_ _=>rfl) md rfl rfl),⟨rfl,rfl,rfl,rfl⟩⟩
end
noncomputable def ci (h:List Nat):List V:=h.map fun (k:Nat)=>V.int k
theorem ci_ints (h:List Nat):ints? (ci h)=some (h.map fun (k:Nat)=>(k:Int)):=by
 have:=ints_map (h.map fun (k:Nat)=>(k:Int))
 rw [List.map_map] at this
 exact this
theorem ci_has (h:List Nat) (k:Nat):(h.map fun (k:Nat)=>(k:Int)).contains (k:Int)=decide (k ∈ h):=by
 rw [List.contains_eq_mem]
 refine decide_eq_decide.mpr ⟨λq=>?_,λq=>List.mem_map.mpr ⟨k,q,rfl⟩⟩
 obtain ⟨j,hj,e⟩:=List.mem_map.mp q
 rw [← Int.ofNat_inj.mp e];exact hj
theorem find_at:∀ {h:List Nat} {i k:Nat},h.Pairwise (· < ·)→h[i]?=some k→findV k (ci h)=some i
 | x :: h,0,_,_,rfl=>by
  show (if ((x:Nat):Int)=x then _ else _)=_
  rw [if_pos rfl]
 | x :: h,i + 1,k,p,e=>by
  rw [List.pairwise_cons] at p
  have:h[i]?=some k:=by simpa using e
  have:=p.1 k (List.mem_of_getElem? this)
  show (if ((x:Nat):Int)=k then _ else (findV k (ci h)).map (· + 1))=_
  rw [if_neg (by omega),find_at p.2 (by simpa using e)];rfl
theorem find_no:∀ {h:List Nat} {k:Nat},k ∉ h→findV k (ci h)=none
 | [],_,_=>rfl
 | x :: h,k,e=>by
  rw [List.mem_cons,not_or] at e
  show (if ((x:Nat):Int)=k then _ else (findV k (ci h)).map (· + 1))=_
  rw [if_neg (by omega),find_no e.2];rfl
theorem erase_at:∀ {h:List Nat} {i k:Nat},h.Pairwise (· < ·)→h[i]?=some k→h.eraseIdx i=h.filter λj=>decide (j ≠ k)
 | x :: h,0,k,p,e=>by
  cases e
  rw [List.pairwise_cons] at p
  rw [List.eraseIdx_zero,List.tail_cons,List.filter_cons_of_neg (by simp),List.filter_eq_self.mpr λa ha=>by have:=p.1 a ha;simp;omega]
 | x :: h,i + 1,k,p,e=>by
  rw [List.pairwise_cons] at p
  have:h[i]?=some k:=by simpa using e
  have:=p.1 k (List.mem_of_getElem? this)
  rw [List.eraseIdx_cons_succ,List.filter_cons_of_pos (by simp;omega),erase_at p.2 (by simpa using e)]
theorem er_map {α β:Type} {f:α→β}:∀ {l:List α} {i:Nat},(l.map f).eraseIdx i=(l.eraseIdx i).map f
 | [],_=>rfl
 | _ :: _,0=>rfl
 | x :: l,i + 1=>by rw [List.map_cons,List.eraseIdx_cons_succ,List.eraseIdx_cons_succ,List.map_cons,er_map]
theorem filter_no {h:List Nat} {k:Nat} (e:k ∉ h):(h.filter λj=>decide (j ≠ k))=h:=List.filter_eq_self.mpr λa ha=>decide_eq_true λq=>e (q ▸ ha)
noncomputable def plc (h:List Nat) (k:Nat):Int:=match findV k (ci h) with
 | some i=>i
 | none=>-1
section
variable {H:Hp} {T:Nat→Nat} {b:Bo} {n j:Nat}
theorem Bk.marks (k:Bk H T b):MarksAt H (b.h.map λk=>V.ref (b.ms.getD k 0)) (b.h.map fun (k:Nat)=>(k:Int) + 1):=by
 refine ⟨by simp,λi x hx=>?_,λi j x y hx hy hij=>?_⟩
 ·rw [List.getElem?_map] at hx
  obtain ⟨q,hq,rfl⟩:=Option.map_eq_some_iff.mp hx
  obtain ⟨a,s,_,h2,_,h4⟩:=k.mark (k.m.hl q (List.mem_of_getElem? hq))
  exact ⟨a,s,_,by rw [List.getElem?_map,hq];show some (V.ref (b.ms.getD q 0))=_;rw [h2],h4⟩
 ·rw [List.getElem?_map] at hx hy
  obtain ⟨p,hp,rfl⟩:=Option.map_eq_some_iff.mp hx
  obtain ⟨q,hq,rfl⟩:=Option.map_eq_some_iff.mp hy
  obtain ⟨hi,rfl⟩:=List.getElem?_eq_some_iff.mp hp
  obtain ⟨hj,rfl⟩:=List.getElem?_eq_some_iff.mp hq
  have:=List.pairwise_iff_getElem.mp k.m.hs i j hi hj hij
  omega
theorem f_place (k:Bk H T b) {a:Nat} (hj:j < b.S.length) (ha:b.ms[j]?=some a):Pv (run thePrg (n + 1) 4 [.ref b.rl,.ref a] H) (.int (plc b.h j)) H:=by
 obtain ⟨a',s,h1,h2,h3,h4⟩:=k.mark hj
 rw [ha] at h1
 cases h1
 have lc:(b.h.map λk=>V.ref (b.ms.getD k 0)).length < capL:=by simpa using k.caph
 by_cases c:j ∈ b.h
 ·obtain ⟨i,hi,e⟩:=List.getElem_of_mem c
  have hij:b.h[i]?=some j:=by rw [← e];simp [hi]
  rw [decide_eq_true c] at h4
  have e2:plc b.h j=i:=by unfold plc;rw [find_at k.m.hs hij]
  rw [e2]
  exact ⟨_,c_place_live k.m.ml k.m.la lc k.marks h4 (i:=i) (by rw [List.getElem?_map,hij];show some (V.ref (b.ms.getD j 0))=_;rw [h2]),pre1⟩
 ·rw [decide_eq_false c] at h4
  have e2:plc b.h j = -1:=by unfold plc;rw [find_no c]
  rw [e2]
  exact ⟨_,c_place_dead k.m.ml k.m.la lc k.marks h4,pre1⟩
theorem plc_in (k:Bk H T b):decide (0 ≤ plc b.h j)=decide (j ∈ b.h):=by
 by_cases c:j ∈ b.h
 ·obtain ⟨i,hi,e⟩:=List.getElem_of_mem c
  unfold plc
  rw [find_at k.m.hs (show b.h[i]?=some j by rw [← e];simp [hi])]
  simp [c]
 ·unfold plc
  rw [find_no c];simp [c]
theorem f_holds (k:Bk H T b) {a:Nat} (hj:j < b.S.length) (ha:b.ms[j]?=some a):∃ H',run thePrg (n + 2) 5 [.ref b.rl,.ref a] H = .val (.bool (decide (j ∈ b.h))) H'∧H <+: H':=by
 obtain ⟨H1,e1,p1⟩:=f_place (n:=n) (k.pre (pre1 (G:=[O.frame]))) hj ha
 refine ⟨H1,run_ret (D:=⟨2,2,b_MarkList_holds,[]⟩) rfl rfl rfl (exs_ret (ex_ret (ev_cmp (ev_meth (ev_var rfl) (meth_at (get_app k.m.ml) rfl rfl) (evs_cons (ev_var rfl) evs_nil) e1) ev_int ?_))),pre1.trans p1⟩
 show some (decide ((0:Int) ≤ plc b.h j))=_
 rw [plc_in k]
theorem ev_held (k:Bk H T b) {e:En} {call:CallF} (h0:look e 0=some (.ref b.rb)) {x:Nat} (h1:look e x=some (.int (j:Nat))):EV call (.isIn (.var x) (.key (.var 0) 77)) e H (.bool (decide (j ∈ b.h))) H :=
 ev_isIn (ev_var h1) (ev_key (ev_var h0) (key_of k.l.ob rfl)) k.l.oh (by simpa using k.caph) (ci_ints b.h) (ci_has b.h j)
theorem ev_mark (k:Bk H T b) {e:En} {call:CallF} (h0:look e 0=some (.ref b.rb)) {x:Nat} (h1:look e x=some (.int (j:Nat))) {a:Nat} (ha:b.ms[j]?=some a):EV call (.idx (.key (.var 0) 3) (.var x)) e H (.ref a) H :=
 ev_idx (ev_key (ev_var h0) (key_of k.l.ob rfl)) (ev_var h1) (idxL (i:=j) k.l.om (by rw [List.length_map,k.m.len];exact k.capS) rfl (by rw [List.getElem?_map,ha];rfl))
theorem Bk.ms_at (k:Bk H T b) (hj:j < b.S.length):∃ a,b.ms[j]?=some a:=let ⟨a,_,h,_,_,_⟩:=k.mark hj;⟨a,h⟩
theorem l_placed (k:Bk H T b) (hj:j < b.S.length):Pv (run thePrg (n + 2) 65 [.ref b.rb,.int (j:Nat)] H) (.bool true) H:=by
 obtain ⟨a,ha⟩:=k.ms_at hj
 have k0:=k.pre (pre1 (G:=[O.frame]))
 obtain ⟨H1,e1,p1⟩:=f_place (n:=n) k0 hj ha
 have fin:∀ p,p=plc b.h j→EX (run thePrg (n + 1)) (.ret (.cmp .eq (.meth (.key (.var 0) 79) 5 (.cons (.idx (.key (.var 0) 3) (.var 1)) .nil)) (.var 2))) [some (.ref b.rb),some (.int (j:Nat)),some (.int p)] (H ++ [.frame]) (.ret (.bool true) H1):=λp hp =>
  ex_ret (ev_cmp (ev_meth (ev_key (ev_var rfl) (key_of k0.l.ob rfl)) (meth_at k0.m.ml rfl rfl) (evs_cons (ev_mark k0 rfl rfl ha) evs_nil) e1) (ev_var rfl) (by rw [hp];show some (plc b.h j == plc b.h j)=_;simp))
 refine ⟨H1,run_ret (D:=⟨2,3,b_law_placed,[]⟩) rfl rfl rfl (exs_nx (ex_assign ev_neg) ?_),pre1.trans p1⟩
 by_cases c:j ∈ b.h
 ·obtain ⟨i,hi,e⟩:=List.getElem_of_mem c
  have hf:=find_at k.m.hs (show b.h[i]?=some j by rw [← e];simp [hi])
  have t:=ev_held k0 (e:=[some (.ref b.rb),some (.int (j:Nat)),some (.int (-1))]) (call:=run thePrg (n + 1)) (j:=j) rfl (x:=1) rfl
  rw [decide_eq_true c] at t
  exact exs_nx (ex_ite_t (tv_b t) (exs_nx (ex_assign (ev_index (ev_key (ev_var rfl) (key_of k0.l.ob rfl)) (isL_of k0.l.oh) (ev_var rfl) k0.l.oh (by simpa using k.caph) (ci_ints b.h) hf)) exs_nil)) (exs_ret (fin _ (by unfold plc;rw [hf])))
 ·have t:=ev_held k0 (e:=[some (.ref b.rb),some (.int (j:Nat)),some (.int (-1))]) (call:=run thePrg (n + 1)) (j:=j) rfl (x:=1) rfl
  rw [decide_eq_false c] at t
  exact exs_nx (ex_ite_f (tv_b t) exs_nil) (exs_ret (fin _ (by unfold plc;rw [find_no c])))
noncomputable def Bo.less (b:Bo) (j:Nat):Bo:={ b with h:=b.h.filter λi=>decide (i ≠ j) }
theorem l_drop (k:Bk H T b) (hj:j < b.S.length):∃ H',run thePrg (n + 3) 64 [.ref b.rb,.int (j:Nat)] H = .val (.bool true) H'∧Post H T b H' T (b.less j):=by
 obtain ⟨a,s,ha,h2,h3,h4⟩:=k.mark hj
 have k0:=k.pre (pre1 (G:=[O.frame]))
 have lc:(b.h.map λk=>V.ref (b.ms.getD k 0)).length < capL:=by simpa using k.caph
 have t:=ev_held k0 (e:=[some (.ref b.rb),some (.int (j:Nat)),none]) (call:=run thePrg (n + 2)) (j:=j) rfl (x:=1) rfl
 have st:=ex_assign (x:=2) t
 have ho:∀ {v2:Option V},EV (run thePrg (n + 2)) (.key (.var 0) 79) [some (.ref b.rb),some (.int (j:Nat)),v2] (H ++ [.frame]) (.ref b.rl) (H ++ [.frame]):=ev_key (ev_var rfl) (key_of k0.l.ob rfl)
 have hm:methOf thePrg (.ref b.rl) 80 (H ++ [.frame])=some 6:=meth_at k0.m.ml rfl rfl
 by_cases c:j ∈ b.h
 ·rw [decide_eq_true c] at h4 st
  obtain ⟨i,hi,e⟩:=List.getElem_of_mem c
  have hij:b.h[i]?=some j:=by rw [← e];simp [hi]
  have hli:(b.h.map λk=>V.ref (b.ms.getD k 0))[i]?=some (.ref a):=by rw [List.getElem?_map,hij];show some (V.ref (b.ms.getD j 0))=_;rw [h2]
  have e1:=c_mlDrop_live (n:=n) k0.m.ml k0.m.la lc k0.marks (get_app h4) hli
  generalize hH1:(((H ++ [O.frame]).set a (markO ((j:Int) + 1) s false)).set b.la (.list ((b.h.map λk=>V.ref (b.ms.getD k 0)).eraseIdx i))) ++ [.frame,.frame]=H1 at e1
  have hH1:=hH1.symm
  have n2:b.la ≠ a:=λq=>by have:=k0.m.la;rw [q,get_app h4] at this;cases this
  have f5:∀ l:List V,fixd [9] [5] (T b.la) (.list l)=false:=λl=>by show (!([5]:List Nat).contains (T b.la))=false;rw [k.m.tg];rfl
  have m1:Md [9] [5] T (H ++ [.frame]) H1:=by
   rw [hH1]
   exact (Md.set (get_app h4) rfl).trans' ((Md.set (get_set_ne k0.m.la n2) (f5 _)).trans' (Md.pre pre1))
  have l1:=k0.l.md m1 (λ_ _=>rfl) rfl
  have t1:=k0.t.md m1 (λ_ _=>rfl) rfl
  have ola:H1[b.la]?=some (.list ((b.h.map λk=>V.ref (b.ms.getD k 0)).eraseIdx i)):=by rw [hH1];exact get_app (get_set_eq (get_set_ne k0.m.la n2))
  have oml:H1[b.rl]?=some (mlO b.la b.S.length):=by
   rw [hH1]
   refine get_app (get_set_ne (get_set_ne k0.m.ml λq=>?_) λq=>?_)
   ·have:=k0.m.ml;rw [q,get_app h4] at this;cases this
   ·have:=k0.m.ml;rw [q,k0.m.la] at this;cases this
  have oa:H1[a]?=some (markO ((j:Int) + 1) s false):=by rw [hH1];exact get_app (get_set_ne (get_set_eq (get_app h4)) (Ne.symm n2))
  have om:∀ x o,(H ++ [O.frame])[x]?=some o→x ≠ a→x ≠ b.la→H1[x]?=some o:=λx o q c1 c2=>by rw [hH1];exact get_app (get_set_ne (get_set_ne q c1) c2)
  have hf:=find_at k.m.hs hij
  have ex3:EX (run thePrg (n + 2)) (.ite (.var 2) (.cons (.expr (.remove (.key (.var 0) 77) (.var 1))) .nil) .nil) [some (.ref b.rb),some (.int (j:Nat)),some (.bool true)] H1 (.nx [some (.ref b.rb),some (.int (j:Nat)),some (.bool true)] (H1.set b.rh (.list ((ci b.h).eraseIdx i)))) :=
   ex_ite_t (tv_b (ev_var rfl)) (exs_nx (ex_expr (ev_remove (ev_key (ev_var rfl) (key_of l1.ob rfl)) (isL_of l1.oh) (ev_var rfl) l1.oh (by simpa using k.caph) (ci_ints b.h) hf) rfl) exs_nil)
  refine ⟨_,run_ret (D:=⟨2,3,b_law_drop,[]⟩) rfl rfl rfl (exs_nx st (exs_nx (ex_tryE_val ho hm (evs_cons (ev_mark k0 rfl rfl ha) evs_nil) e1) (exs_nx ex3 (exs_ret (ex_ret (ev_var rfl)))))),?_⟩
  have f10:∀ l:List V,fixd [9] [5,10] (T b.rh) (.list l)=false:=λl=>by show (!([5,10]:List Nat).contains (T b.rh))=false;rw [k.l.tg.2.2.2];rfl
  have m2:Md [9] [5,10] T (H ++ [.frame]) (H1.set b.rh (.list ((ci b.h).eraseIdx i))):=(m1.mono λt' o q=>by
   cases o with
   | list l=>revert q;show (!([5,10]:List Nat).contains t')=true→(!([5]:List Nat).contains t')=true;simp;omega
   | inst c fs=>exact q
   | _=>rfl).trans' (Md.set l1.oh (f10 _))
  have t2:=k0.t.md m2 (λ_ _=>rfl) rfl
  have kp:∀ x o,H1[x]?=some o→x ≠ b.rh→(H1.set b.rh (.list ((ci b.h).eraseIdx i)))[x]?=some o:=λx o q c=>get_set_ne q c
  have nt:∀ x,T x ≠ 10→x ≠ b.rh:=λx h q=>h (by rw [q];exact k.l.tg.2.2.2)
  have nk:∀ x o,H1[x]?=some o→(∀ l,o ≠ .list l)→x ≠ b.rh:=λx o q c e=>by rw [e,l1.oh] at q;exact c _ (Option.some.inj q).symm
  refine ⟨⟨⟨t2.tb,t2.sk,t2.me,t2.tg⟩,⟨kp _ _ oml (nk _ _ oml (λ_ q=>nomatch q)),?_,k.m.len,λj' x s' hx hs'=>?_,k.m.nd,k.m.hs.sublist List.filter_sublist,λq hq=>k.m.hl q (List.mem_filter.mp hq).1,k.m.tg⟩,
   ⟨kp _ _ l1.ob (nk _ _ l1.ob (λ_ q=>nomatch q)),kp _ _ l1.ow (nt _ λq=>absurd (k.l.tg.1.symm.trans q) (by decide)),l1.wl,λi' x w hx hw=>kp _ _ (l1.wr i' x w hx hw) (nk _ _ (l1.wr i' x w hx hw) (λ_ q=>nomatch q)),kp _ _ l1.om (nt _ λq=>absurd (k.l.tg.2.1.symm.trans q) (by decide)),kp _ _ l1.os (nt _ λq=>absurd (k.l.tg.2.2.1.symm.trans q) (by decide)),?_,k.l.tg⟩,⟨k.n.sb,k.n.ks,k.n.bd,k.n.rl,k.n.sl,k.n.tl⟩,λx hx=>k0.z x (Nat.le_trans m2.1 hx)⟩,
   (St.pre pre1).trans (St.of (λ_ _=>rfl) m2 rfl rfl),⟨rfl,rfl,rfl,rfl⟩⟩
  ·refine kp _ _ ?_ (nt _ λq=>absurd (k.m.tg.symm.trans q) (by decide))
   refine ola.trans ?_
   show _=some (O.list ((b.h.filter λi=>decide (i ≠ j)).map _))
   rw [← erase_at k.m.hs hij,er_map]
   rfl
  ·have hm':H1[x]?=some (markO ((j':Int) + 1) s' (decide (j' ∈ b.h.filter λi=>decide (i ≠ j)))):=by
    by_cases q:j'=j
    ·subst q
     have hx2:b.ms[j']?=some x:=hx
     have hs2:b.S[j']?=some s':=hs'
     rw [ha] at hx2;cases hx2
     rw [h3] at hs2;cases hs2
     rw [oa,decide_eq_false (by simp)]
    ·have nx:x ≠ a:=λz=>q (by
      have hx2:b.ms[j']?=some x:=hx
      rw [z] at hx2
      obtain ⟨g1,g2⟩:=List.getElem?_eq_some_iff.mp hx2
      obtain ⟨g3,g4⟩:=List.getElem?_eq_some_iff.mp ha
      exact (List.getElem_inj k.m.nd).mp (g2.trans g4.symm))
     have:=k0.m.mo j' x s' hx hs'
     rw [show decide (j' ∈ b.h.filter λi=>decide (i ≠ j))=decide (j' ∈ b.h) from decide_eq_decide.mpr (by simp [q])]
     exact om _ _ this nx λz=>by rw [z,k0.m.la] at this;cases this
   exact kp _ _ hm' (nk _ _ hm' (λ_ q=>nomatch q))
  ·refine (get_set_eq l1.oh).trans ?_
   show _=some (O.list (ci (b.h.filter λi=>decide (i ≠ j))))
   rw [← erase_at k.m.hs hij]
   unfold ci
   rw [er_map]
 ·rw [decide_eq_false c] at h4 st
  have e0:b.less j=b:=by unfold Bo.less;rw [filter_no c]
  rw [e0]
  have e1:=c_mlDrop_dead (n:=n) k0.m.ml k0.m.la lc k0.marks (get_app h4)
  exact ⟨_,run_ret (D:=⟨2,3,b_law_drop,[]⟩) rfl rfl rfl (exs_nx st (exs_ret (ex_tryE_ret ho hm (evs_cons (ev_mark k0 rfl rfl ha) evs_nil) e1 (ev_not (ev_var rfl) rfl rfl)))),k0.pre pre1,(St.pre pre1).trans (St.pre pre1),Fx.refl b⟩
end
noncomputable def keyN (i:Nat):List UInt8:=[[107],[107,0],[]].getD i []
theorem keyN_ks (y:Nat):keyN (y % 3) ∈ KS∧theKeys[y % 3]?=some (.bytes (keyN (y % 3)))∧(keyN (y % 3)).length < 1000:=by
 have:y % 3 < 3:=Nat.mod_lt _ (by exact Nat.succ_pos _)
 generalize y % 3=i at this
 rcases (by lia:i=0∨i=1∨i=2) with rfl | rfl | rfl <;> decide
section
variable {H:Hp} {T:Nat→Nat} {b:Bo} {n:Nat}
theorem l_keys:run thePrg (n + 1) 59 [] H = .val (.ref (H ++ [O.frame]).length) (H ++ [.frame] ++ [.list theKeys]) :=
 run_ret (D:=⟨0,0,b_law_keys,[]⟩) rfl rfl rfl (exs_ret (ex_ret (ev_list (evs_cons ev_bytes (evs_cons ev_bytes (evs_cons ev_bytes evs_nil))))))
theorem ev_keyN {i:E} {e:En} {H':Hp} {y:Nat} (h:∀ G:Hp,EV (run thePrg (n + 1)) i e G (.int (y % 3:Nat)) G):∃ H',EV (run thePrg (n + 1)) (.idx (.call 59 .nil) i) e H (.bytes (keyN (y % 3))) H'∧H <+: H' :=
 ⟨_,ev_idx (ev_call evs_nil l_keys) (h _) (idxL (i:=y % 3) (l:=theKeys) (by exact get_end) (by decide) rfl (keyN_ks y).2.1),by rw [List.append_assoc];exact pre1⟩
theorem Bk.put (k:Bk H T b) {w:Wr} (hw:w.1 ∈ KS) (hu:w.1.length < 1000) (hv:(w.2.getD []).length < 1000) (hr:b.R.length + 1 ≤ 35):Ex3 λH' T' b'=>And8 (run thePrg (n + 7) 32 [.ref b.rt,.int (b.B + b.R.length + 1:Nat),.int (wkd w:Nat),.bytes w.1,.bytes (w.2.getD [])] H = .val .none H') (BkT H' T' { b' with R:=w :: b.R }) (BkM H' T' b) (BkL H' T' b) ((∀ i,H'.length ≤ i→T' i=0)) ((∀ i,i < H.length→T' i=T i)) (Md [16,17] [3] T H H') (Ex4 λtw ht ad wg=>b' = { b with tw:=tw,ht:=ht,ad:=ad,wg:=wg }∧tw.length=b.tw.length + 1):=by
 obtain ⟨A,Z,e,hA,hZ,hM⟩:=k.t.me.ins hw
 have s:=k.t.sk
 rw [e] at s
 have hl:=k.n.tl
 rw [e] at hl
 have hb:=k.n.bd
 have hkd:(wkd w=0∧w.2.getD [] = [])∨wkd w=1:=by
  unfold wkd
  cases w.2 with
  | none=>exact .inl ⟨rfl,rfl⟩
  | some v=>exact .inr rfl
 obtain ⟨H',x,w',e1,o1,s1,⟨xu,xs,xk,xv⟩,xa,xl,len,pr⟩:=f_add (n:=n) (sq:=b.B + b.R.length + 1) k.t.tb s hu hv (by lia) hkd (by lia) hA hZ
 have xlk:x.lk < H'.length:=by obtain ⟨_,l,q⟩:=s1.sk.lkAt (y:=x) (by simp);exact lt_of_get q
 have md:Md [16,17] [3] T H H':=⟨len,λi o q f=>pr i o q (λc=>by
   rw [c,k.t.tb] at q;cases q;cases f) (λc=>by rw [c,s.obj] at q;cases q;cases f) λy hy c=>by
   obtain ⟨_,l,z⟩:=s.sk.lkAt hy
   rw [c,z] at q
   cases q
   have:T y.lk=3:=k.t.tg y (by rw [e];exact hy)
   rw [c,this] at f;cases f⟩
 have eT:∀ i,i < H.length→(if i=x.lk then 3 else T i)=T i:=λi hi=>if_neg (by lia)
 refine ⟨H',λi=>if i=x.lk then 3 else T i,{ b with tw:=A ++ x :: Z,ht:=max b.ht (hgt b.ad),ad:=b.ad + 1,wg:=w' },e1,⟨o1,s1,hM x xu xs xk xv,λy hy=>?_⟩,k.m.md md eT rfl,k.l.md md eT rfl,λi hi=>?_,eT,md,_,_,_,_,rfl,by rw [e];simp;rfl⟩
 ·have hy:y ∈ b.hd :: (A ++ x :: Z):=hy
  show (if y.lk=x.lk then 3 else T y.lk)=3
  by_cases c:y.lk=x.lk
  ·rw [if_pos c]
  ·rw [if_neg c]
   refine k.t.tg y ?_
   rw [e]
   rcases List.mem_cons.mp hy with rfl | q
   ·exact .head _
   ·rcases List.mem_append.mp q with q | q
    ·exact .tail _ (List.mem_append_left _ q)
    ·rcases List.mem_cons.mp q with rfl | q
     ·exact absurd rfl c
     ·exact .tail _ (List.mem_append_right _ q)
 ·show (if i=x.lk then 3 else T i)=0
  rw [if_neg (by lia)]
  exact k.z i (by exact Nat.le_trans ‹_› ‹_›)
theorem l_write (k:Bk H T b) (hr:b.R.length + 1 ≤ 35) (y:Nat):Ex3 λH' T' b'=>And5 (run thePrg (n + 8) 60 [.ref b.rb,.int y] H = .val .none H') (Post H T b H' T' b') (b'.R.length=b.R.length + 1) (b'.S=b.S) (b'.h=b.h):=by
 have k0:=k.pre (pre1 (G:=[O.frame]))
 obtain ⟨H1,e1,p1⟩:=ev_keyN (n:=n + 6) (H:=H ++ [.frame]) (H':=H) (i:=.bin .mod (.var 1) (.int 3)) (e:=[some (.ref b.rb),some (.int y),none,none,none]) (y:=y) λG=>ev_bin (ev_var rfl) ev_int (bop_mod (a:=y) (b:=3) (by exact Nat.succ_pos _))
 have k1:=k0.pre p1
 obtain ⟨hk1,_,hk3⟩:=keyN_ks y
 have cw:b.wr.length < capL:=by rw [k.l.wl];have:=k.n.rl;unfold capL;exact Nat.lt_of_lt_of_le ‹_› (by decide)
 have hlen:lenOf (.ref b.rw) H1=some b.R.length:=by rw [lenL k1.l.ow (by simpa using cw),List.length_map,k.l.wl]
 have s1:=ex_assign (x:=2) e1
 have s2:EX (run thePrg (n + 7)) (.assign 3 (.bin .add (.len (.key (.var 0) 73)) (.int 1))) [some (.ref b.rb),some (.int y),some (.bytes (keyN (y % 3))),none,none] H1 (.nx [some (.ref b.rb),some (.int y),some (.bytes (keyN (y % 3))),some (.int ((b.R.length:Int) + 1)),none] H1) :=
  ex_assign (ev_bin (ev_len (ev_key (ev_var rfl) (key_of k1.l.ob rfl)) hlen) ev_int rfl)
 have s3:EX (run thePrg (n + 7)) (.assign 4 .none) [some (.ref b.rb),some (.int y),some (.bytes (keyN (y % 3))),some (.int ((b.R.length:Int) + 1)),none] H1 (.nx [some (.ref b.rb),some (.int y),some (.bytes (keyN (y % 3))),some (.int ((b.R.length:Int) + 1)),some .none] H1):=ex_assign ev_none
 have d3:∀ {e:En} {G:Hp},look e 1=some (.int y)→EV (run thePrg (n + 7)) (.bin .mod (.bin .fdiv (.var 1) (.int 3)) (.int 3)) e G (.int (y / 3 % 3:Nat)) G:=λh=>ev_bin (ev_bin (ev_var h) ev_int (bop_fdiv (a:=y) (b:=3) (by exact Nat.succ_pos _) (by exact Nat.le_add_left _ _))) ev_int (bop_mod (a:=y / 3) (b:=3) (by exact Nat.succ_pos _))
 have fin:∀ {H2:Hp} {w:Wr},H1 <+: H2→w.1=keyN (y % 3)→(w.2.getD []).length < 1000→(∀ {H3},run thePrg (n + 7) 32 [.ref b.rt,.int (b.B + b.R.length + 1:Nat),.int (wkd w:Nat),.bytes w.1,.bytes (w.2.getD [])] H2 = .val .none H3 →
    EX (run thePrg (n + 7)) (.ite (.cmp .lt (.bin .mod (.bin .fdiv (.var 1) (.int 3)) (.int 3)) (.int 2)) (.cons (.assign 4 (.bin .mul (.bytesOf (.list (.cons (.bin .add (.int 64) (.var 3)) .nil))) (.bin .add (.int 1) (.bin .mod (.bin .fdiv (.var 1) (.int 3)) (.int 3))))) (.cons (.expr (.meth (.key (.var 0) 74) 75 (.cons (.bin .add (.key (.var 0) 76) (.var 3)) (.cons (.int 1) (.cons (.var 2) (.cons (.var 4) .nil)))))) .nil)) (.cons (.expr (.meth (.key (.var 0) 74) 75 (.cons (.bin .add (.key (.var 0) 76) (.var 3)) (.cons (.int 0) (.cons (.var 2) (.cons (.bytes []) .nil)))))) .nil))
     [some (.ref b.rb),some (.int y),some (.bytes (keyN (y % 3))),some (.int ((b.R.length:Int) + 1)),some .none] H1 (.nx [some (.ref b.rb),some (.int y),some (.bytes (keyN (y % 3))),some (.int ((b.R.length:Int) + 1)),some (wv w.2)] H3)) →
   Ex3 λH' T' b'=>And5 (run thePrg (n + 8) 60 [.ref b.rb,.int y] H = .val .none H') (Post H T b H' T' b') (b'.R.length=b.R.length + 1) (b'.S=b.S) (b'.h=b.h):=by
  intro H2 w p2 wu wv' hx
  have k2:=k1.pre p2
  obtain ⟨H3,T3,b3,e3,t3,m3,l3,z3,eT,md3,tw,ht,ad,wg,rfl,htw⟩:=k2.put (n:=n) (w:=w) (by rw [wu];exact hk1) (by rw [wu];exact hk3) wv' hr
  have s4:=hx e3
  have rwne:∀ x o,H3[x]?=some o→(∀ l,o ≠ .list l)→x ≠ b.rw:=λx o q c e=>by rw [e,l3.ow] at q;exact c _ (Option.some.inj q).symm
  have s5:EX (run thePrg (n + 7)) (.expr (.append (.key (.var 0) 73) (.tuple (.cons (.var 2) (.cons (.var 4) .nil))))) [some (.ref b.rb),some (.int y),some (.bytes (keyN (y % 3))),some (.int ((b.R.length:Int) + 1)),some (wv w.2)] H3
    (.nx [some (.ref b.rb),some (.int y),some (.bytes (keyN (y % 3))),some (.int ((b.R.length:Int) + 1)),some (wv w.2)] ((H3 ++ [O.tuple [.bytes w.1,wv w.2]]).set b.rw (.list (b.wr.map V.ref ++ [.ref H3.length])))):=by
   rw [wu]
   exact ex_expr (ev_append (ev_key (ev_var rfl) (key_of l3.ob rfl)) (isL_of l3.ow) (ev_tuple (evs_cons (ev_var rfl) (evs_cons (ev_var rfl) evs_nil))) (get_app l3.ow) (by simpa using cw)) rfl
  have h7:∀ l:List V,fixd [] [7] (T3 b.rw) (.list l)=false:=λl=>by show (!([7]:List Nat).contains (T3 b.rw))=false;rw [l3.tg.1];rfl
  have md4:Md [] [7] T3 H3 ((H3 ++ [O.tuple [.bytes w.1,wv w.2]]).set b.rw (.list (b.wr.map V.ref ++ [.ref H3.length]))):=(Md.pre pre1).trans' (Md.set (get_app l3.ow) (h7 _))
  have t4:=t3.md md4 (λ_ _=>rfl) rfl
  have m4:=m3.md md4 (λ_ _=>rfl) rfl
  have kp:∀ x o,H3[x]?=some o→x ≠ b.rw→((H3 ++ [O.tuple [.bytes w.1,wv w.2]]).set b.rw (.list (b.wr.map V.ref ++ [.ref H3.length])))[x]?=some o:=λx o q c=>get_set_ne (get_app q) c
  have nt:∀ x,T3 x ≠ 7→x ≠ b.rw:=λx h q=>h (by rw [q];exact l3.tg.1)
  have p02:H <+: H2:=pre1.trans (p1.trans p2)
  have eT0:∀ i,i < H.length→T3 i=T i:=λi hi=>eT i (Nat.lt_of_lt_of_le hi p02.length_le)
  have lw:=k.l.wl
  refine ⟨_,T3,{ b with tw:=tw,ht:=ht,ad:=ad,wg:=wg,wr:=b.wr ++ [H3.length],R:=w :: b.R },run_nx (D:=⟨2,5,b_law_write,[]⟩) rfl rfl rfl (exs_nx s1 (exs_nx s2 (exs_nx s3 (exs_nx s4 (exs_nx s5 exs_nil))))),
   ⟨⟨⟨t4.tb,t4.sk,t4.me,t4.tg⟩,⟨m4.ml,m4.la,m4.len,m4.mo,m4.nd,m4.hs,m4.hl,m4.tg⟩,
    ⟨kp _ _ l3.ob (rwne _ _ l3.ob (λ_ q=>nomatch q)),?_,by simp [lw],λi a w' ha hw'=>?_,kp _ _ l3.om (nt _ (by rw [l3.tg.2.1];decide)),kp _ _ l3.os (nt _ (by rw [l3.tg.2.2.1];decide)),kp _ _ l3.oh (nt _ (by rw [l3.tg.2.2.2];decide)),l3.tg⟩,
    ⟨λs hs=>?_,λw' hw'=>?_,k.n.bd,by exact hr,k.n.sl,by have:=k.n.tl;simp only [List.length_cons];lia⟩,λi hi=>z3 i (Nat.le_trans md4.1 hi)⟩,
    ⟨eT0,?_⟩,⟨rfl,rfl,rfl,rfl⟩⟩,rfl,rfl,rfl⟩
  ·refine (get_set_eq (get_app l3.ow)).trans ?_
   show _=some (O.list ((b.wr ++ [H3.length]).map _))
   rw [List.map_append];rfl
  ·have ha:(b.wr ++ [H3.length])[i]?=some a:=ha
   have hw':(w :: b.R).reverse[i]?=some w':=hw'
   rw [List.reverse_cons] at hw'
   rcases Nat.lt_or_ge i b.wr.length with q | q
   ·rw [List.getElem?_append_left q] at ha
    rw [List.getElem?_append_left (by rw [List.length_reverse,← lw];exact q)] at hw'
    have:=l3.wr i a w' ha hw'
    exact kp _ _ this (rwne _ _ this (λ_ q=>nomatch q))
   ·have hi:i=b.wr.length:=by
     have:=(List.getElem?_eq_some_iff.mp ha).1
     rw [List.length_append,List.length_singleton] at this;lia
    subst hi
    rw [lw] at hw'
    simp at ha
    rw [← List.length_reverse (as:=b.R)] at hw'
    simp at hw'
    subst ha hw'
    refine get_set_ne (by exact get_end) λq=>?_
    have:=lt_of_get l3.ow
    lia
  ·have:=k.n.sb s hs
   show (b.B:Int) ≤ s∧s ≤ ((b.B + (w :: b.R).length:Nat):Int)
   rw [List.length_cons];lia
  ·rcases List.mem_cons.mp hw' with rfl | q
   ·rw [wu];exact hk1
   ·exact k.n.ks w' q
  ·refine (Md.pre p02).trans (λ_ _=>rfl) ?_
   exact ((St.of (λ_ _=>rfl) md3 rfl rfl:St H2 T H3 T).m).trans eT ((St.of (λ_ _=>rfl) md4 rfl rfl:St H3 T3 _ T3).m)
 have tt:∀ {H2:Hp},H1 <+: H2→methOf thePrg (.ref b.rt) 75 H2=some 32:=λp=>meth_at (get_pre p k1.t.tb) rfl rfl
 have eB:((b.B:Int) + ((b.R.length:Int) + 1))=((b.B + b.R.length + 1:Nat):Int):=by rfl
 by_cases c:y / 3 % 3 < 2
 ·have hby:(ints? [V.int (64 + ((b.R.length:Int) + 1))]).bind toBytes=some [UInt8.ofNat (64 + ((b.R.length:Int) + 1)).toNat]:=by
   show toBytes [64 + ((b.R.length:Int) + 1)]=_
   unfold toBytes
   rw [if_pos (by simp;lia)];rfl
  have em:bop .mul (.bytes [UInt8.ofNat (64 + ((b.R.length:Int) + 1)).toNat]) (.int (1 + (y / 3 % 3:Nat))) (H1 ++ [.list [V.int (64 + ((b.R.length:Int) + 1))]])=some (.bytes (List.flatten (List.replicate (1 + ((y / 3 % 3:Nat):Int)).toNat [UInt8.ofNat (64 + ((b.R.length:Int) + 1)).toNat])),(H1 ++ [.list [V.int (64 + ((b.R.length:Int) + 1))]])):=by
   unfold bop
   dsimp only
   rw [if_pos (by refine ⟨by rfl,by simp,by exact Nat.succ_pos _,by lia⟩)]
  refine fin (H2:=H1 ++ [.list [V.int (64 + ((b.R.length:Int) + 1))]]) (w:=(keyN (y % 3),some (List.flatten (List.replicate (1 + ((y / 3 % 3:Nat):Int)).toNat [UInt8.ofNat (64 + ((b.R.length:Int) + 1)).toNat])))) pre1 rfl (by simp;lia) fun {H3} e3=>?_
  exact ex_ite_t (tv_b (ev_cmp (d3 rfl) ev_int (by show some (decide (_ < _))=some true;rw [decide_eq_true (by exact Int.ofNat_lt.mpr ‹_›)]))) (exs_nx (ex_assign (ev_bin (ev_bytesOf_l (ev_list (evs_cons (ev_bin ev_int (ev_var rfl) rfl) evs_nil)) (by exact get_end) (by simp [capL]) hby) (ev_bin ev_int (d3 rfl) rfl) em))
   (exs_nx (ex_expr (ev_meth (ev_key (ev_var rfl) (key_of (get_app k1.l.ob) rfl)) (tt pre1) (evs_cons (ev_bin (ev_key (ev_var rfl) (key_of (get_app k1.l.ob) rfl)) (ev_var rfl) (by show some (V.int _,_)=_;rw [eB])) (evs_cons ev_int (evs_cons (ev_var rfl) (evs_cons (ev_var rfl) evs_nil)))) e3) rfl) exs_nil))
 ·refine fin (H2:=H1) (w:=(keyN (y % 3),none)) (List.prefix_refl _) rfl (by exact Nat.succ_pos _) fun {H3} e3=>?_
  exact ex_ite_f (tv_b (ev_cmp (d3 rfl) ev_int (by show some (decide (_ < _))=some false;rw [decide_eq_false (by lia)]))) (exs_nx (ex_expr (ev_meth (ev_key (ev_var rfl) (key_of k1.l.ob rfl)) (tt (List.prefix_refl _)) (evs_cons (ev_bin (ev_key (ev_var rfl) (key_of k1.l.ob rfl)) (ev_var rfl) (by show some (V.int _,_)=_;rw [eB])) (evs_cons ev_int (evs_cons (ev_var rfl) (evs_cons ev_bytes evs_nil)))) e3) rfl) exs_nil)
end
section
variable {H:Hp} {T:Nat→Nat} {b:Bo} {n:Nat}
theorem Bk.now (k:Bk H T b):letIt b (b.B + b.R.length:Nat)=true:=by
 rcases k.last with e | ⟨h',j,a,s,e,_,hs,_⟩
 ·exact letIt_nil e _
 ·rw [letIt_last e hs]
  exact decide_eq_true (k.n.sb s (List.mem_of_getElem? hs)).2
noncomputable def burstBody:Ss:=.cons (.ite (.cmp .eq (.var 4) (.var 3)) (.cons (.expr (.call 60 (.cons (.var 0) (.cons (.var 1) .nil)))) .nil) .nil) (.cons (.ite (.not (.call 62 (.cons (.var 0) (.cons (.bin .add (.key (.var 0) 76) (.len (.key (.var 0) 73))) .nil)))) (.cons (.ret (.bool false)) .nil) .nil) .nil)
theorem burst_turn (k:Bk H T b) {y t cut c:Nat} (hr:t=cut→b.R.length + 1 ≤ 35) (hl:b.S.length + 1 ≤ 1000000):Ex3 λH' T' b'=>And5 (EXs (run thePrg (n + 8)) burstBody [some (.ref b.rb),some (.int y),some (.int c),some (.int cut),some (.int t)] H (.nx [some (.ref b.rb),some (.int y),some (.int c),some (.int cut),some (.int t)] H')) (Post H T b H' T' b') (b'.R.length=b.R.length + (if t=cut then 1 else 0)) (b'.S.length=b.S.length + 1) (b'.h.length=b.h.length + 1):=by
 have half:∀ {H1:Hp} {T1:Nat→Nat} {b1:Bo},Post H T b H1 T1 b1→b1.S=b.S→b1.h=b.h→Ex2 λH' b'=>And5 (EX (run thePrg (n + 8)) (.ite (.not (.call 62 (.cons (.var 0) (.cons (.bin .add (.key (.var 0) 76) (.len (.key (.var 0) 73))) .nil)))) (.cons (.ret (.bool false)) .nil) .nil)
   [some (.ref b.rb),some (.int y),some (.int c),some (.int cut),some (.int t)] H1 (.nx [some (.ref b.rb),some (.int y),some (.int c),some (.int cut),some (.int t)] H')) (Post H T b H' T1 b') (b'.R=b1.R) (b'.S.length=b.S.length + 1) (b'.h.length=b.h.length + 1):=by
  intro H1 T1 b1 p eS eh
  obtain ⟨H2,b2,e2,p2,q2⟩:=l_add (n:=n + 5) p.k (sq:=(b1.B + b1.R.length:Nat)) (λ_=>⟨by omega,by omega⟩) (by rw [eS];exact hl)
  rw [p.k.now] at q2
  obtain ⟨a,rfl⟩:=q2
  have cw:b1.wr.length < capL:=by rw [p.k.l.wl];have:=p.k.n.rl;unfold capL;exact Nat.lt_of_le_of_lt ‹_› (by decide)
  have hlen:lenOf (.ref b1.rw) H1=some b1.R.length:=by rw [lenL p.k.l.ow (by simpa using cw),List.length_map,p.k.l.wl]
  have erb:=p.f.rb
  refine ⟨H2,_,ex_ite_f (tv_b (ev_not (ev_call (evs_cons (ev_var rfl) (evs_cons (ev_bin (ev_key (ev_var rfl) (key_of (erb ▸ p.k.l.ob) rfl)) (ev_len (ev_key (ev_var rfl) (key_of (erb ▸ p.k.l.ob) rfl)) hlen) rfl) evs_nil)) (erb ▸ e2)) rfl rfl)) exs_nil,p.trans p2,rfl,?_,?_⟩
  ·show (b1.S ++ _).length=_
   rw [List.length_append,eS];rfl
  ·show (b1.h ++ _).length=_
   rw [List.length_append,eh];rfl
 by_cases c1:t=cut
 ·obtain ⟨H1,T1,b1,e1,p1,r1,s1,h1⟩:=l_write (n:=n) k (hr c1) y
  obtain ⟨H2,b2,e2,p2,r2,s2,h2⟩:=half p1 s1 h1
  exact ⟨H2,T1,b2,exs_nx (ex_ite_t (tv_b (ev_cmp (ev_var rfl) (ev_var rfl) (by show some ((t:Int) == (cut:Int))=some true;rw [c1];simp))) (exs_nx (ex_expr (ev_call (evs_cons (ev_var rfl) (evs_cons (ev_var rfl) evs_nil)) e1) rfl) exs_nil)) (exs_nx e2 exs_nil),p2,by rw [r2,if_pos c1,r1],s2,h2⟩
 ·obtain ⟨H2,b2,e2,p2,r2,s2,h2⟩:=half ⟨k,⟨λ_ _=>rfl,Md.pre (List.prefix_refl _)⟩,Fx.refl b⟩ rfl rfl
  exact ⟨H2,T,b2,exs_nx (ex_ite_f (tv_b (ev_cmp (ev_var rfl) (ev_var rfl) (by show some ((t:Int) == (cut:Int))=some false;exact congrArg some (beq_eq_false_iff_ne.mpr (by lia))))) exs_nil) (exs_nx e2 exs_nil),p2,by rw [r2,if_neg c1];rfl,s2,h2⟩
theorem l_burst (k:Bk H T b) (hr:b.R.length + 1 ≤ 35) {c:Nat} (h0:0 < c) (hc:c ≤ 1000) (hl:b.S.length + c ≤ 1000000) (y:Nat):Ex3 λH' T' b'=>And5 (run thePrg (n + 9) 63 [.ref b.rb,.int y,.int c] H = .val (.bool true) H') (Post H T b H' T' b') (b'.R.length=b.R.length + 1) (b'.S.length=b.S.length + c) (b'.h.length=b.h.length + c):=by
 have s1:EX (run thePrg (n + 8)) (.assign 3 (.bin .mod (.bin .fdiv (.var 1) (.int 9)) (.var 2))) [some (.ref b.rb),some (.int y),some (.int c),none,none] (H ++ [.frame]) (.nx [some (.ref b.rb),some (.int y),some (.int c),some (.int (y / 9 % c:Nat)),none] (H ++ [.frame])) :=
  ex_assign (ev_bin (ev_bin (ev_var rfl) ev_int (bop_fdiv (a:=y) (b:=9) (by exact Nat.succ_pos _) (by exact Nat.le_add_left _ _))) (ev_var rfl) (bop_mod (a:=y / 9) (b:=c) h0))
 have hcut:y / 9 % c < c:=Nat.mod_lt _ h0
 generalize y / 9 % c=cut at s1 hcut
 obtain ⟨r,e,q⟩:=ex_forR (call:=run thePrg (n + 8)) (x:=4) (A:=.int 0) (B:=.var 2) (C:=.int 1) (body:=burstBody) (s:=[some (.ref b.rb),some (.int y),some (.int c),some (.int cut),none]) (H:=H ++ [.frame]) (i:=0) (j:=c) (k:=1)
  (λr=>Ex4 λv H' T' b'=>And5 (r = .nx [some (.ref b.rb),some (.int y),some (.int c),some (.int cut),v] H') (Post H T b H' T' b') (b'.R.length=b.R.length + 1) (b'.S.length=b.S.length + c) (b'.h.length=b.h.length + c))
  (λt e h=>Ex3 λv T' b'=>And5 (e = [some (.ref b.rb),some (.int y),some (.int c),some (.int cut),v]) (Post H T b h T' b') (b'.R.length=b.R.length + (if cut < t then 1 else 0)) (b'.S.length=b.S.length + t) (b'.h.length=b.h.length + t))
  ev_int (ev_var rfl) ev_int (range_ok (by exact Nat.le_trans ‹_› (by decide))) ⟨none,T,b,rfl,⟨k.pre pre1,St.pre pre1,Fx.refl b⟩,rfl,rfl,rfl⟩ (by
   rw [range_cnt]
   rintro t e h ht ⟨v,T',b',rfl,p,r1,r2,r3⟩
   obtain ⟨H2,T2,b2,e2,p2,q1,q2,q3⟩:=burst_turn (n:=n) p.k (y:=y) (t:=t) (cut:=cut) (c:=c) (λz=>by rw [r1,if_neg (by lia)];exact hr) (by lia)
   rw [p.f.rb] at e2
   have e3:EXs (run thePrg (n + 8)) burstBody (put [some (.ref b.rb),some (.int y),some (.int c),some (.int cut),v] 4 (.int (0 + 1 * (t:Nat)))) h (.nx [some (.ref b.rb),some (.int y),some (.int c),some (.int cut),some (.int t)] H2):=by
    rw [show (0:Int) + 1 * (t:Nat)=(t:Nat) by lia]
    exact e2
   refine ⟨_,e3,some (.int t),T2,b2,rfl,p.trans p2,?_,by lia,by lia⟩
   ·rw [q1,r1]
    by_cases c1:t=cut
    ·rw [if_neg (by lia),if_pos c1,if_pos (by lia)]
    ·rw [if_neg c1]
     by_cases c2:cut < t
     ·rw [if_pos c2,if_pos (by exact Nat.lt_succ_of_lt ‹_›)]
     ·rw [if_neg c2,if_neg (by lia)]) (by
   rw [range_cnt]
   rintro e h ⟨v,T',b',rfl,p,r1,r2,r3⟩
   rw [if_pos hcut] at r1
   exact ⟨v,h,T',b',rfl,p,r1,r2,r3⟩)
 obtain ⟨v,H',T',b',rfl,p,r1,r2,r3⟩:=q
 exact ⟨H',T',b',run_ret (D:=⟨3,5,b_law_burst,[]⟩) rfl rfl rfl (exs_nx s1 (exs_nx e (exs_ret (ex_ret ev_bool)))),p,r1,r2,r3⟩
end
section
variable {H:Hp} {T:Nat→Nat} {b:Bo} {n:Nat}
theorem f_size (k:Bk H T b):run thePrg (n + 1) 2 [.ref b.rl] H = .val (.int (b.h.length:Nat)) (H ++ [.frame]):=by
 have lc:(b.h.map λk=>V.ref (b.ms.getD k 0)).length < capL:=by simpa using k.caph
 have e:=c_mlSize (n:=n) k.m.ml k.m.la lc
 rw [List.length_map] at e
 exact e
noncomputable def lstV (b:Bo):V:=match b.h with
 | []=>.none
 | j :: _=>.int (b.S.getD j 0)
theorem agr_least (k:Bk H T b) {y:Nat} {ra:Nat}:∃ H',EX (run thePrg (n + 2)) (.tryA 7 (.var 2) 81 .nil 4 Option.none 7) [some (.ref b.rb),some (.int y),some (.ref b.rl),some (.ref b.rh),some (.int (b.S.length:Nat)),some (lstV b),some (.ref ra),none,none] H
  (.nx [some (.ref b.rb),some (.int y),some (.ref b.rl),some (.ref b.rh),some (.int (b.S.length:Nat)),some (lstV b),some (.ref ra),some (lstV b),none] H')∧H <+: H':=by
 have hm:methOf thePrg (.ref b.rl) 81 H=some 8:=meth_at k.m.ml rfl rfl
 cases e:b.h with
 | nil =>
  have e1:=c_mlSmallest0 (n:=n + 1) k.m.ml (by have:=k.m.la;rw [e] at this;exact this)
  have e2:lstV b = .none:=by unfold lstV;rw [e]
  rw [e2]
  exact ⟨_,ex_tryA_none (ev_var rfl) hm evs_nil e1,pre1⟩
 | cons j h =>
  obtain ⟨a,s,h1,h2,h3,h4⟩:=k.mark (k.m.hl j (by rw [e];simp))
  have la:=k.m.la
  have lc:=k.caph
  rw [e,List.map_cons,h2] at la
  have e1:=c_mlSmallest (n:=n + 1) k.m.ml la (by rw [e] at lc;simpa using lc) h4
  have e2:lstV b = .int s:=by unfold lstV;rw [e];dsimp only;rw [List.getD_eq_getElem?_getD,h3];rfl
  rw [e2]
  exact ⟨_,ex_tryA_val (ev_var rfl) hm evs_nil e1,pre1⟩
theorem agr_tail (k:Bk H T b) {y ra:Nat} {q:List Nat} (hq:H[ra]?=some (.list (ci q))) (hl:3 ≤ q.length∧q.length ≤ 6) (hb:∀ j ∈ q,j < b.S.length) :
  ∃ H',EXs (run thePrg (n + 2)) (.cons (.tryA 7 (.var 2) 81 .nil 4 Option.none 7) (.cons (.ite (.or (.cmp .ne (.meth (.var 2) 82 .nil) (.len (.var 3))) (.cmp .ne (.var 7) (.var 5))) (.cons (.ret (.bool false)) .nil) .nil) (.cons (.for 8 (.var 6) (.cons (.ite (.not (.call 65 (.cons (.var 0) (.cons (.var 8) .nil)))) (.cons (.ret (.bool false)) .nil) .nil) .nil)) (.cons (.for 8 (.tuple (.cons (.idx (.var 6) (.bin .mod (.bin .fdiv (.var 1) (.int 11)) (.int 3))) (.cons (.idx (.var 6) (.bin .fdiv (.len (.var 6)) (.int 2))) .nil))) (.cons (.ite (.cmp .ne (.meth (.var 2) 83 (.cons (.idx (.key (.var 0) 3) (.var 8)) .nil)) (.isIn (.var 8) (.var 3))) (.cons (.ret (.bool false)) .nil) .nil) .nil)) (.cons (.ret (.bool true)) .nil)))))
   [some (.ref b.rb),some (.int y),some (.ref b.rl),some (.ref b.rh),some (.int (b.S.length:Nat)),some (lstV b),some (.ref ra),none,none] H (.ret (.bool true) H')∧H <+: H':=by
 obtain ⟨H1,e1,p1⟩:=agr_least (n:=n) k (y:=y) (ra:=ra)
 have k1:=k.pre p1
 have sz:=f_size (n:=n + 1) k1
 have hlen:lenOf (.ref b.rh) (H1 ++ [O.frame])=some b.h.length:=by rw [lenL (get_app k1.l.oh) (by simpa using k.caph)];simp
 have t2:TV (run thePrg (n + 2)) (.or (.cmp .ne (.meth (.var 2) 82 .nil) (.len (.var 3))) (.cmp .ne (.var 7) (.var 5))) [some (.ref b.rb),some (.int y),some (.ref b.rl),some (.ref b.rh),some (.int (b.S.length:Nat)),some (lstV b),some (.ref ra),some (lstV b),none] H1 false (H1 ++ [.frame]):=by
  refine tv_b (ev_or_f (ev_cmp (c:=false) (ev_meth (ev_var rfl) (meth_at k1.m.ml rfl rfl) evs_nil sz) (ev_len (ev_var rfl) hlen) (by show some (!(((b.h.length:Nat):Int) == (b.h.length:Nat)))=_;simp)) rfl (ev_cmp (ev_var rfl) (ev_var rfl) ?_))
  unfold lstV
  split
  ·rfl
  ·show some (!(b.S.getD _ 0 == b.S.getD _ 0))=_;simp
 have p2:H <+: H1 ++ [.frame]:=p1.trans pre1
 have lq:(ci q).length < capL:=by unfold ci capL;rw [List.length_map];omega
 obtain ⟨r3,e3,H3,v3,rfl,p3⟩:=ex_forL (call:=run thePrg (n + 2)) (x:=8) (A:=.var 6) (body:=.cons (.ite (.not (.call 65 (.cons (.var 0) (.cons (.var 8) .nil)))) (.cons (.ret (.bool false)) .nil) .nil) .nil)
  (s:=[some (.ref b.rb),some (.int y),some (.ref b.rl),some (.ref b.rh),some (.int (b.S.length:Nat)),some (lstV b),some (.ref ra),some (lstV b),none]) (H:=H1 ++ [.frame]) (m:=ra) (l:=ci q)
  (λr=>Ex2 λH3 v=>r = .nx [some (.ref b.rb),some (.int y),some (.ref b.rl),some (.ref b.rh),some (.int (b.S.length:Nat)),some (lstV b),some (.ref ra),some (lstV b),v] H3∧H <+: H3)
  (λt e h=>∃ v,e = [some (.ref b.rb),some (.int y),some (.ref b.rl),some (.ref b.rh),some (.int (b.S.length:Nat)),some (lstV b),some (.ref ra),some (lstV b),v]∧H <+: h)
  (ev_var rfl) lq (λt e h w_=>by obtain ⟨_,_,p⟩:=w_;exact get_pre p hq) ⟨none,rfl,p2⟩ (by
   rintro t v e h hv ⟨w,rfl,p⟩
   unfold ci at hv
   rw [List.getElem?_map] at hv
   obtain ⟨j,hj,rfl⟩:=Option.map_eq_some_iff.mp hv
   obtain ⟨H4,e4,p4⟩:=l_placed (n:=n) (k.pre p) (hb j (List.mem_of_getElem? hj))
   exact ⟨_,exs_nx (ex_ite_f (tv_b (ev_not (ev_call (evs_cons (ev_var rfl) (evs_cons (ev_var rfl) evs_nil)) e4) rfl rfl)) exs_nil) exs_nil,some (.int j),rfl,p.trans p4⟩) (by
   rintro e h ⟨w,rfl,p⟩
   exact ⟨h,w,rfl,p⟩)
 have i1:y / 11 % 3 < q.length:=by have:=Nat.mod_lt (y / 11) (show 0 < 3 by omega);omega
 have i2:q.length / 2 < q.length:=by omega
 have hq3:=get_pre p3 hq
 have hlq:lenOf (.ref ra) H3=some q.length:=by rw [lenL hq3 lq];unfold ci;simp
 have et:EV (run thePrg (n + 2)) (.tuple (.cons (.idx (.var 6) (.bin .mod (.bin .fdiv (.var 1) (.int 11)) (.int 3))) (.cons (.idx (.var 6) (.bin .fdiv (.len (.var 6)) (.int 2))) .nil))) [some (.ref b.rb),some (.int y),some (.ref b.rl),some (.ref b.rh),some (.int (b.S.length:Nat)),some (lstV b),some (.ref ra),some (lstV b),v3] H3
   (.ref H3.length) (H3 ++ [.tuple (ci [q[y / 11 % 3],q[q.length / 2]])]) :=
  ev_tuple (evs_cons (ev_idx (ev_var rfl) (ev_bin (ev_bin (ev_var rfl) ev_int (bop_fdiv (a:=y) (b:=11) (by omega) (by omega))) ev_int (bop_mod (a:=y / 11) (b:=3) (by omega))) (idxL (i:=y / 11 % 3) hq3 lq rfl (by unfold ci;rw [List.getElem?_map,List.getElem?_eq_getElem i1];rfl)))
   (evs_cons (ev_idx (ev_var rfl) (ev_bin (ev_len (ev_var rfl) hlq) ev_int (bop_fdiv (a:=q.length) (b:=2) (by omega) (by omega))) (idxL (i:=q.length / 2) hq3 lq rfl (by unfold ci;rw [List.getElem?_map,List.getElem?_eq_getElem i2];rfl))) evs_nil))
 have hb2:∀ j ∈ [q[y / 11 % 3],q[q.length / 2]],j < b.S.length:=λj hj=>hb j (by
  rcases List.mem_cons.mp hj with rfl | hj
  ·exact List.getElem_mem _
  ·rw [List.mem_singleton] at hj;rw [hj];exact List.getElem_mem _)
 have l2:(ci [q[y / 11 % 3],q[q.length / 2]]).length < capL:=by unfold ci capL;simp
 generalize [q[y / 11 % 3],q[q.length / 2]]=q2 at hb2 et l2
 have hq4:(H3 ++ [O.tuple (ci q2)])[H3.length]?=some (.tuple (ci q2)):=by simp
 obtain ⟨r4,e4,H5,v5,rfl,p5⟩:=ex_forTu (call:=run thePrg (n + 2)) (x:=8) (A:=_) (body:=.cons (.ite (.cmp .ne (.meth (.var 2) 83 (.cons (.idx (.key (.var 0) 3) (.var 8)) .nil)) (.isIn (.var 8) (.var 3))) (.cons (.ret (.bool false)) .nil) .nil) .nil)
  (s:=[some (.ref b.rb),some (.int y),some (.ref b.rl),some (.ref b.rh),some (.int (b.S.length:Nat)),some (lstV b),some (.ref ra),some (lstV b),v3]) (H:=H3) (m:=H3.length) (l:=ci q2)
  (λr=>Ex2 λH5 v=>r = .nx [some (.ref b.rb),some (.int y),some (.ref b.rl),some (.ref b.rh),some (.int (b.S.length:Nat)),some (lstV b),some (.ref ra),some (lstV b),v] H5∧H3 ++ [.tuple (ci q2)] <+: H5)
  (λt e h=>∃ v,e = [some (.ref b.rb),some (.int y),some (.ref b.rl),some (.ref b.rh),some (.int (b.S.length:Nat)),some (lstV b),some (.ref ra),some (lstV b),v]∧H3 ++ [.tuple (ci q2)] <+: h)
  et l2 (λt e h w_=>by obtain ⟨_,_,p⟩:=w_;exact get_pre p hq4) ⟨v3,rfl,List.prefix_refl _⟩ (by
   rintro t v e h hv ⟨w,rfl,p⟩
   unfold ci at hv
   rw [List.getElem?_map] at hv
   obtain ⟨j,hj,rfl⟩:=Option.map_eq_some_iff.mp hv
   have kh:=(k.pre p3).pre (pre1.trans p)
   have jl:=hb2 j (List.mem_of_getElem? hj)
   obtain ⟨a,ha⟩:=kh.ms_at jl
   obtain ⟨H6,e6,p6⟩:=f_holds (n:=n) kh jl ha
   have k6:=kh.pre p6
   refine ⟨_,exs_nx (ex_ite_f (tv_b (ev_cmp (c:=false) (ev_meth (ev_var rfl) (meth_at kh.m.ml rfl rfl) (evs_cons (ev_mark kh rfl rfl ha) evs_nil) e6) (ev_isIn (ev_var rfl) (ev_var rfl) k6.l.oh (by simpa using k6.caph) (ci_ints b.h) (ci_has b.h j)) ?_)) exs_nil) exs_nil,some (.int j),rfl,p.trans p6⟩
   show some (!(decide (j ∈ b.h) == decide (j ∈ b.h)))=_
   simp) (by
   rintro e h ⟨w,rfl,p⟩
   exact ⟨h,w,rfl,p⟩)
 exact ⟨H5,exs_nx e1 (exs_nx (ex_ite_f t2 exs_nil) (exs_nx e3 (exs_nx e4 (exs_ret (ex_ret ev_bool))))),p3.trans (pre1.trans p5)⟩
theorem l_agrees (k:Bk H T b) (h0:0 < b.S.length) (y:Nat):Pv (run thePrg (n + 3) 66 [.ref b.rb,.int y] H) (.bool true) H:=by
 have k0:=k.pre (pre1 (G:=[O.frame]))
 have l:=k0.l
 have cm:(b.ms.map V.ref).length < capL:=by rw [List.length_map,k.m.len];exact k.capS
 have hlen:lenOf (.ref b.rm) (H ++ [O.frame])=some b.S.length:=by rw [lenL l.om cm,List.length_map,k.m.len]
 have hl0:=k.n.sl
 have s6:∀ {call:CallF},EV call (.list (.cons (.bin .mod (.var 1) (.var 4)) (.cons (.bin .mod (.bin .fdiv (.var 1) (.int 7)) (.var 4)) (.cons (.bin .sub (.var 4) (.int 1)) .nil)))) [some (.ref b.rb),some (.int y),some (.ref b.rl),some (.ref b.rh),some (.int (b.S.length:Nat)),some .none,none,none,none] (H ++ [.frame])
   (.ref (H ++ [O.frame]).length) (H ++ [.frame] ++ [.list (ci [y % b.S.length,y / 7 % b.S.length,b.S.length - 1])]) :=
  ev_list (evs_cons (ev_bin (ev_var rfl) (ev_var rfl) (bop_mod (a:=y) (b:=b.S.length) h0)) (evs_cons (ev_bin (ev_bin (ev_var rfl) ev_int (bop_fdiv (a:=y) (b:=7) (by omega) (by omega))) (ev_var rfl) (bop_mod (a:=y / 7) (b:=b.S.length) h0)) (evs_cons (ev_bin (v:=.int (b.S.length - 1:Nat)) (ev_var rfl) ev_int (by show some (V.int ((b.S.length:Int) - 1),_)=_;rw [show ((b.S.length:Int) - 1)=((b.S.length - 1:Nat):Int) by omega])) evs_nil)))
 have m1:y % b.S.length < b.S.length:=Nat.mod_lt _ h0
 have m2:y / 7 % b.S.length < b.S.length:=Nat.mod_lt _ h0
 have hb1:∀ j ∈ [y % b.S.length,y / 7 % b.S.length,b.S.length - 1],j < b.S.length:=λj hj=>by
  simp only [List.mem_cons,List.not_mem_nil,or_false] at hj
  omega
 have l3:[y % b.S.length,y / 7 % b.S.length,b.S.length - 1].length=3:=rfl
 generalize [y % b.S.length,y / 7 % b.S.length,b.S.length - 1]=q at hb1 l3 s6
 have hq:(H ++ [O.frame] ++ [O.list (ci q)])[(H ++ [O.frame]).length]?=some (.list (ci q)):=by simp
 have k1:=k0.pre (pre1 (G:=[O.list (ci q)]))
 have lq:(ci q).length < capL:=by unfold ci capL;rw [List.length_map];omega
 have lh:(b.h.map fun (k:Nat)=>V.int k).length < capL:=by simpa using k.caph
 have hlh:lenOf (.ref b.rh) (H ++ [O.frame] ++ [O.list (ci q)])=some b.h.length:=by rw [lenL k1.l.oh lh];simp
 refine Exists.elim ?_ λH' (w:EXs (run thePrg (n + 2)) b_law_agrees [some (.ref b.rb),some (.int y),none,none,none,none,none,none,none] (H ++ [O.frame]) (.ret (.bool true) H')∧H <+: H')=>⟨H',run_ret (D:=⟨2,9,b_law_agrees,[]⟩) rfl rfl rfl w.1,w.2⟩
 have pre:∀ {r:SRes} {H2:Hp} {lv:V} {ra:Nat} {X:Ss},EX (run thePrg (n + 2)) (.ite (.cmp .gt (.len (.var 3)) (.int 0)) (.cons (.assign 5 (.idx (.key (.var 0) 78) (.idx (.var 3) (.int 0)))) (.cons (.assign 6 (.bin .add (.var 6) (.list (.cons (.idx (.var 3) (.int 0)) (.cons (.idx (.var 3) (.bin .mod (.bin .fdiv (.var 1) (.int 3)) (.len (.var 3)))) (.cons (.idx (.var 3) (.neg 1)) .nil)))))) .nil)) .nil)
   [some (.ref b.rb),some (.int y),some (.ref b.rl),some (.ref b.rh),some (.int (b.S.length:Nat)),some .none,some (.ref (H ++ [O.frame]).length),none,none] (H ++ [.frame] ++ [.list (ci q)]) (.nx [some (.ref b.rb),some (.int y),some (.ref b.rl),some (.ref b.rh),some (.int (b.S.length:Nat)),some lv,some (.ref ra),none,none] H2) →
   EXs (run thePrg (n + 2)) X [some (.ref b.rb),some (.int y),some (.ref b.rl),some (.ref b.rh),some (.int (b.S.length:Nat)),some lv,some (.ref ra),none,none] H2 r→EXs (run thePrg (n + 2)) (.cons (.assign 2 (.key (.var 0) 79)) (.cons (.assign 3 (.key (.var 0) 77)) (.cons (.assign 4 (.len (.key (.var 0) 3))) (.cons (.assign 5 .none) (.cons (.assign 6 (.list (.cons (.bin .mod (.var 1) (.var 4)) (.cons (.bin .mod (.bin .fdiv (.var 1) (.int 7)) (.var 4)) (.cons (.bin .sub (.var 4) (.int 1)) .nil))))) (.cons (.ite (.cmp .gt (.len (.var 3)) (.int 0)) (.cons (.assign 5 (.idx (.key (.var 0) 78) (.idx (.var 3) (.int 0)))) (.cons (.assign 6 (.bin .add (.var 6) (.list (.cons (.idx (.var 3) (.int 0)) (.cons (.idx (.var 3) (.bin .mod (.bin .fdiv (.var 1) (.int 3)) (.len (.var 3)))) (.cons (.idx (.var 3) (.neg 1)) .nil)))))) .nil)) .nil) X))))))
    [some (.ref b.rb),some (.int y),none,none,none,none,none,none,none] (H ++ [.frame]) r:=λh1 h2 =>
  exs_nx (ex_assign (ev_key (ev_var rfl) (key_of l.ob rfl))) (exs_nx (ex_assign (ev_key (ev_var rfl) (key_of l.ob rfl))) (exs_nx (ex_assign (ev_len (ev_key (ev_var rfl) (key_of l.ob rfl)) hlen)) (exs_nx (ex_assign ev_none) (exs_nx (ex_assign s6) (exs_nx h1 h2)))))
 cases e:b.h with
 | nil =>
  have ev:lstV b = .none:=by unfold lstV;rw [e]
  obtain ⟨H',w1,w2⟩:=agr_tail (n:=n) k1 (y:=y) hq (by omega) hb1
  rw [ev] at w1
  exact ⟨H',pre (ex_ite_f (tv_b (ev_cmp (ev_len (ev_var rfl) hlh) ev_int (by rw [e];rfl))) exs_nil) w1,pre1.trans (pre1.trans w2)⟩
 | cons j0 h' =>
  have ev:lstV b = .int (b.S.getD j0 0):=by unfold lstV;rw [e]
  have j0h:b.h[0]?=some j0:=by rw [e];rfl
  have hpos:0 < b.h.length:=by rw [e];simp
  obtain ⟨a,s,_,_,h3,_⟩:=k.mark (k.m.hl j0 (by rw [e];simp))
  have es:b.S.getD j0 0=s:=by rw [List.getD_eq_getElem?_getD,h3];rfl
  rw [es] at ev
  have at_:∀ {i j:Nat},b.h[i]?=some j→(b.h.map fun (k:Nat)=>V.int k)[i]?=some (.int j):=λh=>by rw [List.getElem?_map,h];rfl
  have i3:y / 3 % b.h.length < b.h.length:=Nat.mod_lt _ hpos
  obtain ⟨jl,hjl⟩:∃ jl,b.h[b.h.length - 1]?=some jl:=⟨b.h[b.h.length - 1],by simp⟩
  have d0:EV (run thePrg (n + 2)) (.idx (.var 3) (.int 0)) [some (.ref b.rb),some (.int y),some (.ref b.rl),some (.ref b.rh),some (.int (b.S.length:Nat)),some .none,some (.ref (H ++ [O.frame]).length),none,none] (H ++ [.frame] ++ [.list (ci q)]) (.int j0) (H ++ [.frame] ++ [.list (ci q)]) :=
   ev_idx (ev_var rfl) ev_int (idxL (i:=0) k1.l.oh lh rfl (at_ j0h))
  have s5:EX (run thePrg (n + 2)) (.assign 5 (.idx (.key (.var 0) 78) (.idx (.var 3) (.int 0)))) [some (.ref b.rb),some (.int y),some (.ref b.rl),some (.ref b.rh),some (.int (b.S.length:Nat)),some .none,some (.ref (H ++ [O.frame]).length),none,none] (H ++ [.frame] ++ [.list (ci q)]) (.nx [some (.ref b.rb),some (.int y),some (.ref b.rl),some (.ref b.rh),some (.int (b.S.length:Nat)),some (.int s),some (.ref (H ++ [O.frame]).length),none,none] (H ++ [.frame] ++ [.list (ci q)])):=ex_assign (ev_idx (ev_key (ev_var rfl) (key_of k1.l.ob rfl)) d0 (idxL (i:=j0) k1.l.os (by simpa using k.capS) rfl (v:=.int s) (by rw [List.getElem?_map,h3];rfl)))
  have add:EV (run thePrg (n + 2)) (.list (.cons (.idx (.var 3) (.int 0)) (.cons (.idx (.var 3) (.bin .mod (.bin .fdiv (.var 1) (.int 3)) (.len (.var 3)))) (.cons (.idx (.var 3) (.neg 1)) .nil)))) [some (.ref b.rb),some (.int y),some (.ref b.rl),some (.ref b.rh),some (.int (b.S.length:Nat)),some (.int s),some (.ref (H ++ [O.frame]).length),none,none] (H ++ [.frame] ++ [.list (ci q)])
    (.ref (H ++ [O.frame] ++ [O.list (ci q)]).length) (H ++ [.frame] ++ [.list (ci q)] ++ [.list (ci [j0,b.h[y / 3 % b.h.length],jl])]) :=
   ev_list (evs_cons (ev_idx (ev_var rfl) ev_int (idxL (i:=0) k1.l.oh lh rfl (at_ j0h))) (evs_cons (ev_idx (ev_var rfl) (ev_bin (ev_bin (ev_var rfl) ev_int (bop_fdiv (a:=y) (b:=3) (by omega) (by omega))) (ev_len (ev_var rfl) hlh) (bop_mod (a:=y / 3) (b:=b.h.length) hpos)) (idxL (i:=y / 3 % b.h.length) k1.l.oh lh rfl (at_ (List.getElem?_eq_getElem i3))))
    (evs_cons (ev_idx (ev_var rfl) ev_neg (idxN (i:=b.h.length - 1) k1.l.oh lh (by decide) (by simp;omega) (at_ hjl))) evs_nil)))
  have hb3:∀ j ∈ [j0,b.h[y / 3 % b.h.length],jl],j < b.S.length:=λj hj=>k.m.hl j (by
   simp only [List.mem_cons,List.not_mem_nil,or_false] at hj
   rcases hj with rfl | rfl | rfl
   ·rw [e];simp
   ·exact List.getElem_mem _
   ·exact List.mem_of_getElem? hjl)
  have l33:[j0,b.h[y / 3 % b.h.length],jl].length=3:=rfl
  generalize [j0,b.h[y / 3 % b.h.length],jl]=q3 at add hb3 l33
  have sum:bop .add (.ref (H ++ [O.frame]).length) (.ref (H ++ [O.frame] ++ [O.list (ci q)]).length) (H ++ [.frame] ++ [.list (ci q)] ++ [.list (ci q3)])=some (.ref (H ++ [O.frame] ++ [O.list (ci q)] ++ [O.list (ci q3)]).length,H ++ [.frame] ++ [.list (ci q)] ++ [.list (ci q3)] ++ [.list (ci (q ++ q3))]):=by
   unfold bop
   dsimp only
   rw [get_app hq,List.getElem?_append_right (Nat.le_refl _),Nat.sub_self]
   dsimp only [List.getElem?_cons_zero]
   rw [if_pos ⟨rfl,by unfold ci capL;rw [List.length_map,List.length_map];omega⟩]
   unfold ci
   rw [List.map_append]
  have k4:=(k1.pre (pre1 (G:=[O.list (ci q3)]))).pre (pre1 (G:=[O.list (ci (q ++ q3))]))
  obtain ⟨H',w1,w2⟩:=agr_tail (n:=n) k4 (y:=y) (ra:=(H ++ [O.frame] ++ [O.list (ci q)] ++ [O.list (ci q3)]).length) (q:=q ++ q3) (by simp) (by rw [List.length_append];omega) (λj hj=>by
   rcases List.mem_append.mp hj with q | q
   ·exact hb1 j q
   ·exact hb3 j q)
  rw [ev] at w1
  exact ⟨H',pre (ex_ite_t (tv_b (ev_cmp (ev_len (ev_var rfl) hlh) ev_int (by show some (decide ((0:Int) < (b.h.length:Nat)))=_;rw [decide_eq_true (by omega)]))) (exs_nx s5 (exs_nx (ex_assign (ev_bin (ev_var rfl) add sum)) exs_nil))) w1,pre1.trans (pre1.trans (pre1.trans (pre1.trans w2)))⟩
end
section
variable {H:Hp} {T:Nat→Nat} {b:Bo} {n:Nat}
theorem f_dropAll (k:Bk H T b):Ex2 λH' la'=>And6 (run thePrg (n + 1) 7 [.ref b.rl] H = .val .none H') (H'[b.rl]?=some (mlO la' b.S.length)) (H'[la']?=some (.list [])) (H.length ≤ la') (Md [9,10] [] T H H') (∀ (j a:Nat) (s:Int),b.ms[j]?=some a→b.S[j]?=some s→H'[a]?=some (markO ((j:Int) + 1) s false)):=by
 have k0:=k.pre (pre1 (G:=[O.frame]))
 have lc:(b.h.map λk=>V.ref (b.ms.getD k 0)).length < capL:=by (rw [List.length_map];exact k.caph)
 obtain ⟨r,e,h1,v1,rfl,m1,q1⟩:=ex_forL (call:=run thePrg n) (x:=1) (A:=.attr (.var 0) 3) (body:=.cons (.setattr (.var 1) 2 (.bool false)) .nil) (s:=[some (.ref b.rl),none]) (H:=H ++ [.frame]) (m:=b.la) (l:=b.h.map λk=>V.ref (b.ms.getD k 0))
  (λr=>Ex2 λh v=>And3 (r = .nx [some (.ref b.rl),v] h) (Md [9] [] T (H ++ [.frame]) h) (∀ (j a:Nat) (s:Int),b.ms[j]?=some a→b.S[j]?=some s→h[a]?=some (markO ((j:Int) + 1) s false)))
  (λt e h=>∃ v,And3 (e = [some (.ref b.rl),v]) (Md [9] [] T (H ++ [.frame]) h) (∀ (j a:Nat) (s:Int),b.ms[j]?=some a→b.S[j]?=some s→h[a]?=some (markO ((j:Int) + 1) s (decide (j ∈ b.h.drop t)))))
  (ev_attr (ev_var rfl) (attr_of k0.m.ml rfl rfl)) lc (λt e h w_=>by obtain ⟨_,_,m,_⟩:=w_;exact m.2 _ _ k0.m.la rfl) ⟨none,rfl,Md.pre (List.prefix_refl _),λj a s ha hs=>by rw [List.drop_zero];exact k0.m.mo j a s ha hs⟩ (by
   rintro t v e h hv ⟨w,rfl,m,q⟩
   rw [List.getElem?_map] at hv
   obtain ⟨j,hj,rfl⟩:=Option.map_eq_some_iff.mp hv
   obtain ⟨ht,e1⟩:=List.getElem?_eq_some_iff.mp hj
   obtain ⟨a,s,a1,a2,a3,_⟩:=k.mark (k.m.hl j (List.mem_of_getElem? hj))
   have oa:=q j a s a1 a3
   have ed:b.h.drop t=j :: b.h.drop (t + 1):=by rw [← e1];exact List.drop_eq_getElem_cons ht
   have pw:(b.h.drop t).Pairwise (· < ·):=k.m.hs.sublist (List.drop_sublist _ _)
   rw [ed,List.pairwise_cons] at pw
   refine ⟨_,exs_nx (ex_setattr ev_bool (ev_var rfl) (setAttr_of (a2.symm ▸ oa) rfl (by exact Nat.le_add_left _ _))) exs_nil,some (.ref (b.ms.getD j 0)),rfl,m.trans' (Md.set (a2.symm ▸ oa) rfl),λj' a' s' ha' hs'=>?_⟩
   rw [a2]
   by_cases c:j'=j
   ·subst c
    rw [a1] at ha';cases ha'
    rw [a3] at hs';cases hs'
    have d:decide (j' ∈ b.h.drop (t + 1))=false:=decide_eq_false λz=>by have:=pw.1 _ z;exact Nat.lt_irrefl _ ‹_›
    rw [get_set_eq oa,d]
    rfl
   ·have nx:a' ≠ a:=λz=>c (by
     rw [z] at ha'
     obtain ⟨g1,g2⟩:=List.getElem?_eq_some_iff.mp ha'
     obtain ⟨g3,g4⟩:=List.getElem?_eq_some_iff.mp a1
     exact (List.getElem_inj k.m.nd).mp (g2.trans g4.symm))
    have:=q j' a' s' ha' hs'
    rw [show decide (j' ∈ b.h.drop t)=decide (j' ∈ b.h.drop (t + 1)) from decide_eq_decide.mpr (by rw [ed];simp [c])] at this
    exact get_set_ne this nx) (by
   rintro e h ⟨w,rfl,m,q⟩
   refine ⟨h,w,rfl,m,λj a s ha hs=>?_⟩
   have:=q j a s ha hs
   rw [List.length_map,List.drop_length] at this
   exact this)
 have oml:=m1.2 _ _ k0.m.ml rfl
 have st:EX (run thePrg n) (.setattr (.var 0) 3 (.list .nil)) [some (.ref b.rl),v1] h1 (.nx [some (.ref b.rl),v1] ((h1 ++ [O.list []]).set b.rl (mlO h1.length b.S.length))) :=
  ex_setattr (ev_list evs_nil) (ev_var rfl) (setAttr_of (get_app oml) rfl (by exact Nat.le_add_left _ _))
 have ne:h1.length ≠ b.rl:=λq=>by have:=lt_of_get oml;lia
 refine ⟨_,h1.length,run_nx (D:=⟨1,2,b_MarkList_drop_all,[]⟩) rfl rfl rfl (exs_nx e (exs_nx st exs_nil)),get_set_eq (get_app oml),get_set_ne (by simp) ne,by have:=m1.1;rw [List.length_append] at this;exact Nat.le_of_lt ‹_›,?_,λj a s ha hs=>?_⟩
 ·exact (Md.pre pre1).trans' ((m1.mono λt' o z=>by
   cases o with
   | list l=>exact z
   | inst c fs=>revert z;show (!([9,10]:List Nat).contains c)=true→(!([9]:List Nat).contains c)=true;simp;lia
   | _=>rfl).trans' ((Md.pre pre1).trans' (Md.set (get_app oml) rfl)))
 ·exact get_set_ne (get_app (q1 j a s ha hs)) λc=>by have:=q1 j a s ha hs;rw [c,oml] at this;cases this
noncomputable def Bo.none (b:Bo) (la:Nat):Bo:={ b with la:=la,h:=[] }
theorem l_clear (k:Bk H T b) {e:En} (h0:look e 0=some (.ref b.rb)) (h3:look e 3=some (.ref b.rh)):Ex4 λH1 H2 T' la=>And3 (EX (run thePrg (n + 1)) (.expr (.meth (.key (.var 0) 79) 84 .nil)) e H (.nx e H1)) (EX (run thePrg (n + 1)) (.while (.cmp .gt (.len (.var 3)) (.int 0)) (.cons (.expr (.pop (.var 3))) .nil)) e H1 (.nx e H2)) (Post H T b H2 T' (b.none la)):=by
 obtain ⟨H1,la,e1,o1,o2,g1,m1,q1⟩:=f_dropAll (n:=n) k
 have l1:=k.l.md m1 (λ_ _=>rfl) rfl
 have lh:(ci b.h).length < capL:=by unfold ci;simpa using k.caph
 have sub:∀ m,(ci (b.h.take m)).length < capL:=λm=>by unfold ci at *;simp at *;lia
 have f10:∀ l:List V,fixd [] [10] (T b.rh) (.list l)=false:=λl=>by show (!([10]:List Nat).contains (T b.rh))=false;rw [k.l.tg.2.2.2];rfl
 obtain ⟨r,e2,h2,rfl,m2,o3⟩:=ex_while (call:=run thePrg (n + 1)) (a:=.cmp .gt (.len (.var 3)) (.int 0)) (B:=.cons (.expr (.pop (.var 3))) .nil) (s:=e) (H:=H1)
  (λr=>∃ h,And3 (r = .nx e h) (Md [] [10] T H1 h) (h[b.rh]?=some (.list [])))
  (λm e' h=>e'=e∧Md [] [10] T H1 h∧m ≤ b.h.length∧h[b.rh]?=some (.list (ci (b.h.take m)))) (k:=b.h.length) k.caph ⟨rfl,Md.pre (List.prefix_refl _),Nat.le_refl _,by rw [List.take_length];exact l1.oh⟩ (by
   rintro m e' h ⟨rfl,md,hm,oh⟩
   have hl:lenOf (.ref b.rh) h=some m:=by rw [lenL oh (sub m)];unfold ci;simp;lia
   cases m with
   | zero=>exact .inl ⟨h,tv_b (ev_cmp (ev_len (ev_var h3) hl) ev_int rfl),h,rfl,md,oh⟩
   | succ m =>
    right
    have ht:b.h.take (m + 1)=b.h.take m ++ [b.h[m]]:=by rw [List.take_succ_eq_append_getElem (by assumption)]
    have oh2:=oh
    rw [ht] at oh2
    unfold ci at oh2
    rw [List.map_append] at oh2
    have hs:=sub (m + 1)
    rw [ht] at hs
    unfold ci at hs
    rw [List.map_append] at hs
    exact ⟨h,tv_b (ev_cmp (ev_len (ev_var h3) hl) ev_int (by show some (decide ((0:Int) < ((m + 1:Nat):Int)))=some true;rw [decide_eq_true (by lia)])),_,exs_nx (ex_expr (ev_pop (ev_var h3) oh2 hs) rfl) exs_nil,m,by exact Nat.lt_succ_self _,rfl,md.trans' (Md.set oh2 (f10 _)),by exact Nat.le_of_lt ‹_›,get_set_eq oh2⟩)
 have kp:∀ x o,H1[x]?=some o→T x ≠ 10→h2[x]?=some o:=λx o q c=>m2.2 _ _ q (by
  cases o with
  | list l=>show (!([10]:List Nat).contains (T x))=true;simp;exact c
  | _=>rfl)
 have kd:∀ (x:Nat) (o:O),H1[x]?=some o→(∀ l,o ≠ .list l)→h2[x]?=some o:=λx o q c=>m2.2 _ _ q (by
  cases o with
  | list l=>exact absurd rfl (c l)
  | _=>rfl)
 have eT:∀ i,i < H.length→(if i=la then 5 else T i)=T i:=λi hi=>if_neg (by lia)
 have zla:T la=0:=k.z la g1
 have md:Md [9,10] [10] T H h2:=(m1.mono λt o z=>by
  cases o with
  | list l=>rfl
  | _=>exact z).trans' (m2.mono λt o z=>by
  cases o with
  | inst c fs=>rfl
  | _=>exact z)
 have t2:=k.t.md md eT rfl
 obtain ⟨g7,g8,g9,g10⟩:=k.l.tg
 have lo:∀ {i o},H[i]?=some o→(if i=la then 5 else T i)=T i:=λq=>eT _ (lt_of_get q)
 refine ⟨H1,h2,λi=>if i=la then 5 else T i,la,ex_expr (ev_meth (ev_key (ev_var h0) (key_of k.l.ob rfl)) (meth_at k.m.ml rfl rfl) evs_nil e1) (rfl),e2,
  ⟨⟨t2.tb,t2.sk,t2.me,t2.tg⟩,⟨kd _ _ o1 (λ_ q=>nomatch q),kp _ _ o2 (λq=>absurd (zla.symm.trans q) (by decide)),k.m.len,λj a s ha hs=>?_,k.m.nd,.nil,(λ_ q=>nomatch q),if_pos rfl⟩,
   ⟨kd _ _ l1.ob (λ_ q=>nomatch q),kp _ _ l1.ow (λq=>absurd (g7.symm.trans q) (by decide)),k.l.wl,λi a w ha hw=>kd _ _ (l1.wr i a w ha hw) (λ_ q=>nomatch q),kp _ _ l1.om (λq=>absurd (g8.symm.trans q) (by decide)),kp _ _ l1.os (λq=>absurd (g9.symm.trans q) (by decide)),o3,
    (lo k.l.ow).trans g7,(lo k.l.om).trans g8,(lo k.l.os).trans g9,(lo k.l.oh).trans g10⟩,⟨k.n.sb,k.n.ks,k.n.bd,k.n.rl,k.n.sl,k.n.tl⟩,λi hi=>?_⟩,
  St.of eT md rfl rfl,⟨rfl,rfl,rfl,rfl⟩⟩
 ·have:=q1 j a s ha hs
  rw [show decide (j ∈ (b.none la).h)=false from decide_eq_false λq=>nomatch q]
  exact kd _ _ this (λ_ q=>nomatch q)
 ·have:=md.1
  have:=lt_of_get (kp _ _ o2 (by rw [zla];decide))
  show (if i=la then 5 else T i)=0
  rw [if_neg (by lia)]
  exact k.z i (by exact Nat.le_trans ‹_› ‹_›)
end
theorem run_retC {n f:Nat} {D:FDef} {vs:List V} {H H':Hp} {v:V} {e:En} {H0:Hp} (hD:theFn f=some D) (hl:vs.length=D.params) (hc:cellsIn D.cells (vs.map some ++ List.replicate (D.size - D.params) Option.none) (H ++ [.frame])=(e,H0)) (h:EXs (run thePrg n) D.body e H0 (.ret v H')) :
  run thePrg (n + 1) f vs H = .val v H':=by
 rw [run_fn hD]
 unfold runBody
 rw [if_pos hl,hc]
 dsimp only
 rw [h]
theorem compL_is {elt:V→Hp→Option (V × Hp)} {r:Nat} {l:List V} (f:V→V) (I:Hp→Prop) (hI:∀ h,I h→h[r]?=some (.list l)):∀ (rest acc:List V) (h:Hp),(∀ v ∈ rest,∀ h,I h→∃ h',elt v h=some (f v,h')∧I h')→I h →
  ∃ h',compL elt r l rest acc h=some (.ref h'.length,h' ++ [.list (acc ++ rest.map f)])∧I h'
 | [],acc,h,_,i=>⟨h,(if_pos (hI h i)).trans (congrArg (λz=>some (V.ref h.length,h ++ [O.list z])) (List.append_nil acc).symm),i⟩
 | v :: rest,acc,h,hs,i=>by
  obtain ⟨h1,e1,i1⟩:=hs v (.head _) h i
  obtain ⟨h2,e2,i2⟩:=compL_is f I hI rest (acc ++ [f v]) h1 (λv hv=>hs v (.tail _ hv)) i1
  refine ⟨h2,?_,i2⟩
  show (if h[r]?=some (.list l) then (match elt v h with | some (u,h')=>compL elt r l rest (acc ++ [u]) h' | Option.none=>Option.none) else Option.none)=_
  rw [if_pos (hI h i),e1,List.map_cons]
  exact e2.trans (by rw [List.append_assoc];rfl)
theorem compRL_is {elt:V→Hp→Option (V × Hp)} {a c:Int} {h:Hp} (g:Nat→V):∀ (m i:Nat) (acc:List V),(∀ j,i ≤ j→j < i + m→elt (.int (a + c * j)) h=some (g j,h))→compRL elt a c m i acc h=some (.ref h.length,h ++ [.list (acc ++ (List.range m).map λj=>g (i + j))])
 | 0,i,acc,_=>congrArg (λz=>some (V.ref h.length,h ++ [O.list z])) (List.append_nil acc).symm
 | m + 1,i,acc,hs=>by
  show (match elt (.int (a + c * i)) h with | some (u,h')=>compRL elt a c m (i + 1) (acc ++ [u]) h' | Option.none=>Option.none)=_
  rw [hs i (Nat.le_refl _) (Nat.lt_add_of_pos_right (Nat.succ_pos m))]
  dsimp only
  rw [compRL_is g m (i + 1) _ λj h1 h2=>hs j (Nat.le_of_succ_le h1) (by rw [← Nat.add_assoc,Nat.add_right_comm];exact h2),List.range_succ_eq_map,List.map_cons,List.map_map,List.append_assoc]
  exact congrArg (λz=>some (V.ref h.length,h ++ [O.list (acc ++ g i :: z)])) (List.map_congr_left λj _=>by show g (i + 1 + j)=g (i + (j + 1));rw [Nat.add_assoc,Nat.add_comm 1 j])
section
variable {call:CallF} {s:En} {H H1 H2 H3:Hp} {A B C E0:E} {x:Nat} {cs:List Nat}
theorem ev_comp {r:Nat} {l:List V} {p:V × Hp} (ha:EV call A s H (.ref r) H1) (hl:H1[r]?=some (.list l)) (hc:l.length < capL) (hp:compL (λv h=>ev thePrg call E0 (put (maskE cs s) x v) h) r l l [] H1=some p):EV call (.comp E0 x cs A) s H p.1 p.2:=by
 show (match ev thePrg call A s H with | some (.ref r,h)=>(match h[r]? with | some (.list l)=>if l.length < capL then compL (λv h=>ev thePrg call E0 (put (maskE cs s) x v) h) r l l [] h else Option.none | _=>Option.none) | _=>Option.none)=_
 rw [ha];dsimp only;rw [hl];exact (if_pos hc).trans hp
theorem ev_compR {i j k:Int} {p:V × Hp} (ha:EV call A s H (.int i) H1) (hb:EV call B s H1 (.int j) H2) (hc:EV call C s H2 (.int k) H3) (ok:rangeOk i j k=true) (hn:rangeCount i j k < capL) (hp:compRL (λv h=>ev thePrg call E0 (put (maskE cs s) x v) h) i k (rangeCount i j k) 0 [] H3=some p):EV call (.compR E0 x cs A B C) s H p.1 p.2:=by
 show (match ev thePrg call A s H with | some (.int i,h)=>(match ev thePrg call B s h with | some (.int j,h)=>(match ev thePrg call C s h with | some (.int k,h)=>if rangeOk i j k && decide (rangeCount i j k < capL) then compRL (λv h=>ev thePrg call E0 (put (maskE cs s) x v) h) i k (rangeCount i j k) 0 [] h else Option.none | _=>Option.none) | _=>Option.none) | _=>Option.none)=_
 rw [ha];dsimp only;rw [hb];dsimp only;rw [hc];dsimp only;rw [ok,decide_eq_true hn];exact hp
end
theorem cnt2 {a b:Nat} (j:Nat) (h:j < rangeCount a b 2):a + 2 * j < b:=by
 unfold rangeCount at h
 split at h
 ·omega
 ·exact absurd ‹_› (Nat.not_lt_zero _)
theorem cnt2_le {a b:Nat}:rangeCount a b 2 ≤ b:=by
 unfold rangeCount
 split <;> (first | lia | exact Nat.zero_le _)
section
variable {H:Hp} {T:Nat→Nat} {b:Bo} {n:Nat}
structure CL (h:Hp) (b:Bo) (c0 c3:Nat):Prop where
 c0:h[c0]?=some (.cell (some (.ref b.rb)))
 c3:h[c3]?=some (.cell (some (.ref b.rh)))
theorem CL.st {h h':Hp} {T T':Nat→Nat} {c0 c3:Nat} (c:CL h b c0 c3) (s:St h T h' T'):CL h' b c0 c3:=⟨s.m.2 _ _ c.c0 rfl,s.m.2 _ _ c.c3 rfl⟩
theorem sev_drop (k:Bk H T b) {c0 c3:Nat} (c:CL H b c0 c3) {e:En} {i:E} {H1:Hp} {j:Nat} (e0:look e 0=some (.ref c0)) (hj:j < b.S.length) (hi:EV (run thePrg (n + 3)) i e H (.int (j:Nat)) H1) (p:H <+: H1):∃ H',EV (run thePrg (n + 3)) (.call 64 (.cons (.cvar 0) (.cons i .nil))) e H (.bool true) H'∧Post H T b H' T (b.less j):=by
 obtain ⟨H',e1,p1⟩:=l_drop (n:=n) (k.pre p) hj
 exact ⟨H',ev_call (evs_cons (ev_cvar e0 c.c0) (evs_cons hi evs_nil)) e1,p1.k,(St.pre p).trans p1.s,p1.f⟩
theorem less_len {h:List Nat} {j:Nat} (p:h.Pairwise (· < ·)) (hj:j ∈ h):(h.filter λi=>decide (i ≠ j)).length + 1=h.length:=by
 obtain ⟨i,hi,e⟩:=List.getElem_of_mem hj
 rw [← erase_at p (show h[i]?=some j by rw [← e];simp [hi]),List.length_eraseIdx_of_lt hi]
 lia
noncomputable def sevE (a b:Nat) (w y:V) (x4 x5 x6 x7 x8:Option V):En:=[some (.ref a),some w,some y,some (.ref b),x4,x5,x6,x7,x8]
theorem l_several (k:Bk H T b) (h13:13 ≤ b.h.length) {way:Nat} (hw:1 ≤ way∧way ≤ 4) (y:Nat):Ex2 λH' b'=>And4 (run thePrg (n + 4) 67 [.ref b.rb,.int way,.int y] H = .val (.bool true) H') (Post H T b H' T b') (b'.S=b.S) (b'.R=b.R):=by
 have pc:cellsIn [0,3] ([V.ref b.rb,.int way,.int y].map some ++ List.replicate 6 Option.none) (H ++ [.frame])=((sevE (H.length + 1) (H.length + 2) (.int way) (.int y) none none none none none),H ++ [.frame,.cell (some (.ref b.rb)),.cell none]):=by
  have e1:(H ++ [O.frame]).length=H.length + 1:=len1
  have e2:(H ++ [O.frame] ++ [O.cell (some (.ref b.rb))]).length=H.length + 2:=by rw [len1,e1]
  show ([some (V.ref (H ++ [O.frame]).length),some (.int way),some (.int y),some (.ref (H ++ [O.frame] ++ [O.cell (some (.ref b.rb))]).length),none,none,none,none,none],H ++ [O.frame] ++ [O.cell (some (.ref b.rb))] ++ [O.cell none])=_
  rw [e2,e1,List.append_assoc,List.append_assoc];rfl
 have hs:=k.n.sl
 have hS:=k.hS
 have k0:=k.pre (pre1 (G:=[O.frame,.cell (some (.ref b.rb)),.cell none]))
 have oc0:(H ++ [O.frame,.cell (some (.ref b.rb)),.cell none])[H.length + 1]?=some (.cell (some (.ref b.rb))):=by rw [List.getElem?_append_right (by exact Nat.le_add_right _ _),show H.length + 1 - H.length=1 by exact Nat.add_sub_cancel_left _ _];rfl
 have oc3:(H ++ [O.frame,.cell (some (.ref b.rb)),.cell none])[H.length + 2]?=some (.cell none):=by rw [List.getElem?_append_right (by exact Nat.le_add_right _ _),show H.length + 2 - H.length=2 by exact Nat.add_sub_cancel_left _ _];rfl
 have st1:EX (run thePrg (n + 3)) (.cassign 3 (.key (.cvar 0) 77)) (sevE (H.length + 1) (H.length + 2) (.int way) (.int y) none none none none none) (H ++ [.frame,.cell (some (.ref b.rb)),.cell none])
   (.nx (sevE (H.length + 1) (H.length + 2) (.int way) (.int y) none none none none none) ((H ++ [O.frame,.cell (some (.ref b.rb)),.cell none]).set (H.length + 2) (.cell (some (.ref b.rh))))) :=
  ex_cassign (ev_key (ev_cvar rfl oc0) (key_of k0.l.ob rfl)) rfl oc3
 have pr:H <+: (H ++ [O.frame,.cell (some (.ref b.rb)),.cell none]).set (H.length + 2) (.cell (some (.ref b.rh))):=⟨[.frame,.cell (some (.ref b.rb)),.cell (some (.ref b.rh))],by rw [List.set_append_right _ _ (by exact Nat.le_add_right _ _),show H.length + 2 - H.length=2 by exact Nat.add_sub_cancel_left _ _];rfl⟩
 have cl:CL ((H ++ [O.frame,.cell (some (.ref b.rb)),.cell none]).set (H.length + 2) (.cell (some (.ref b.rh)))) b (H.length + 1) (H.length + 2):=⟨get_set_ne oc0 (by lia),get_set_eq oc3⟩
 generalize (H ++ [O.frame,.cell (some (.ref b.rb)),.cell none]).set (H.length + 2) (.cell (some (.ref b.rh)))=G at st1 pr cl
 have kG:=k.pre pr
 have lh:(b.h.map fun (k:Nat)=>V.int k).length < capL:=by (rw [List.length_map];exact k.caph)
 have fin:∀ {H':Hp} {b':Bo},EXs (run thePrg (n + 3)) b_law_several (sevE (H.length + 1) (H.length + 2) (.int way) (.int y) none none none none none) (H ++ [.frame,.cell (some (.ref b.rb)),.cell none]) (.ret (.bool true) H')→Post G T b H' T b'→b'.S=b.S→b'.R=b.R →
   Ex2 λH' b'=>And4 (run thePrg (n + 4) 67 [.ref b.rb,.int way,.int y] H = .val (.bool true) H') (Post H T b H' T b') (b'.S=b.S) (b'.R=b.R):=λw p q1 q2=>⟨_,_,run_retC (D:=⟨3,9,b_law_several,[0,3]⟩) rfl rfl pc w,⟨p.k,(St.pre pr).trans p.s,p.f⟩,q1,q2⟩
 by_cases c:way=4
 ·subst c
  have hlen:∀ {e:En} {h:Hp},Bk h T b→CL h b (H.length + 1) (H.length + 2)→look e 3=some (.ref (H.length + 2))→EV (run thePrg (n + 3)) (.len (.cvar 3)) e h (.int (b.h.length:Nat)) h:=λkh c e3=>ev_len (ev_cvar e3 c.c3) (by rw [lenL kh.l.oh lh];simp)
  have d2:y / 2 % 2 < 2:=Nat.mod_lt _ (by exact Nat.succ_pos _)
  have mx:(if (0:Int) < (b.h.length:Nat) - 24 then (b.h.length:Int) - 24 else 0)=((b.h.length - 24:Nat):Int):=by split <;> lia
  have m1:bop .mul (.int ((b.h.length - 24:Nat):Int)) (.int (y / 2 % 2:Nat)) G=some (.int (((b.h.length - 24) * (y / 2 % 2):Nat):Int),G):=by
   unfold bop bopI isSmall big
   dsimp only
   rw [if_pos (by simp;omega)]
   rw [Int.natCast_mul]
  have s4:EX (run thePrg (n + 3)) (.assign 4 (.bin .mul (.max (.int 0) (.bin .sub (.len (.cvar 3)) (.int 24))) (.bin .mod (.bin .fdiv (.var 2) (.int 2)) (.int 2)))) (sevE (H.length + 1) (H.length + 2) (.int (4:Nat)) (.int y) none none none none none) G
    (.nx (sevE (H.length + 1) (H.length + 2) (.int (4:Nat)) (.int y) (some (.int (((b.h.length - 24) * (y / 2 % 2):Nat):Int))) none none none none) G):=by
   have:=ev_max (a:=.int 0) (b:=.bin .sub (.len (.cvar 3)) (.int 24)) (call:=run thePrg (n + 3)) (s:=(sevE (H.length + 1) (H.length + 2) (.int (4:Nat)) (.int y) none none none none none)) (H:=G) (i:=0) (j:=(b.h.length:Int) - 24) ev_int (ev_bin (hlen kG cl rfl) ev_int rfl)
   rw [mx] at this
   exact ex_assign (ev_bin this (ev_bin (ev_bin (ev_var rfl) ev_int (bop_fdiv (a:=y) (b:=2) (by omega) (by omega))) ev_int (bop_mod (a:=y / 2) (b:=2) (by omega))) m1)
  have le0:(b.h.length - 24) * (y / 2 % 2) ≤ b.h.length - 24:=by
   rcases Nat.mod_two_eq_zero_or_one (y / 2) with q | q <;> rw [q] <;> omega
  generalize (b.h.length - 24) * (y / 2 % 2)=least at s4 le0
  have emin:(if ((least:Int) + 24) < (b.h.length:Nat) then ((least:Int) + 24) else (b.h.length:Nat))=((min b.h.length (least + 24):Nat):Int):=by split <;> omega
  have y2:y % 2 < 2:=Nat.mod_lt _ (by omega)
  have cntl:=cnt2_le (a:=least + y % 2) (b:=min b.h.length (least + 24))
  have hn:rangeCount ((least + y % 2:Nat):Int) ((min b.h.length (least + 24):Nat):Int) 2 < capL:=Nat.lt_of_le_of_lt (Nat.le_trans cntl (Nat.min_le_left _ _)) k.caph
  have els:∀ j,0 ≤ j→j < 0 + rangeCount (least + y % 2:Nat) (min b.h.length (least + 24):Nat) 2→(λv h=>ev thePrg (run thePrg (n + 3)) (.idx (.cvar 3) (.var 5)) (put (maskE [0,3] (sevE (H.length + 1) (H.length + 2) (.int (4:Nat)) (.int y) (some (.int (least:Nat))) none none none none)) 5 v) h) (.int (((least + y % 2:Nat):Int) + 2 * (j:Nat))) G=some (.int (b.h.getD (least + y % 2 + 2 * j) 0:Nat),G):=λj _ hj=>by
   have:=cnt2 j (by rw [Nat.zero_add] at hj;exact hj)
   have hlt:least + y % 2 + 2 * j < b.h.length:=by omega
   exact ev_idx (ev_cvar rfl cl.c3) (ev_var rfl) (idxL (i:=least + y % 2 + 2 * j) kG.l.oh lh (by omega) (by rw [List.getElem?_map,List.getElem?_eq_getElem hlt,List.getD_eq_getElem?_getD,List.getElem?_eq_getElem hlt];rfl))
  have cr:=compRL_is (elt:=λv h=>ev thePrg (run thePrg (n + 3)) (.idx (.cvar 3) (.var 5)) (put (maskE [0,3] (sevE (H.length + 1) (H.length + 2) (.int (4:Nat)) (.int y) (some (.int (least:Nat))) none none none none)) 5 v) h) (a:=((least + y % 2:Nat):Int)) (c:=2) (h:=G) (λj=>V.int (b.h.getD (least + y % 2 + 2 * j) 0:Nat)) _ 0 [] els
  have wh:(([]:List V) ++ (List.range (rangeCount (least + y % 2:Nat) (min b.h.length (least + 24):Nat) 2)).map λj=>V.int (b.h.getD (least + y % 2 + 2 * (0 + j)) 0:Nat))=ci ((List.range (rangeCount (least + y % 2:Nat) (min b.h.length (least + 24):Nat) 2)).map λj=>b.h.getD (least + y % 2 + 2 * j) 0):=by
   unfold ci
   rw [List.map_map,List.nil_append]
   exact List.map_congr_left λj _=>by simp
  rw [wh] at cr
  have wl:∀ j ∈ ((List.range (rangeCount (least + y % 2:Nat) (min b.h.length (least + 24):Nat) 2)).map λj=>b.h.getD (least + y % 2 + 2 * j) 0),j < b.S.length:=λq hq=>by
   obtain ⟨j,hj,rfl⟩:=List.mem_map.mp hq
   have:=cnt2 j (List.mem_range.mp hj)
   have hlt:least + y % 2 + 2 * j < b.h.length:=by omega
   rw [List.getD_eq_getElem?_getD,List.getElem?_eq_getElem hlt]
   exact k.m.hl _ (List.getElem_mem _)
  have wc:(ci ((List.range (rangeCount (least + y % 2:Nat) (min b.h.length (least + 24):Nat) 2)).map λj=>b.h.getD (least + y % 2 + 2 * j) 0)).length < capL:=by unfold ci;rw [List.length_map,List.length_map,List.length_range];exact hn
  have rok:rangeOk (least + y % 2:Nat) (min b.h.length (least + 24):Nat) 2=true:=by exact rng_small (Nat.le_trans (Nat.add_le_add_right le0 _) (by omega)) (Nat.le_trans (Nat.min_le_left _ _) (Nat.le_trans hS (Nat.le_trans hs (by decide)))) rfl
  have s6:EX (run thePrg (n + 3)) (.assignComp 6 (.compR (.idx (.cvar 3) (.var 5)) 5 [0,3] (.bin .add (.var 4) (.bin .mod (.var 2) (.int 2))) (.min (.len (.cvar 3)) (.bin .add (.var 4) (.int 24))) (.int 2))) (sevE (H.length + 1) (H.length + 2) (.int (4:Nat)) (.int y) (some (.int (least:Nat))) none none none none) G
    (.nx (sevE (H.length + 1) (H.length + 2) (.int (4:Nat)) (.int y) (some (.int (least:Nat))) none (some (.ref G.length)) none none) (G ++ [.list (ci ((List.range (rangeCount (least + y % 2:Nat) (min b.h.length (least + 24):Nat) 2)).map λj=>b.h.getD (least + y % 2 + 2 * j) 0))])):=by
   have e1:=ev_min (a:=.len (.cvar 3)) (b:=.bin .add (.var 4) (.int 24)) (call:=run thePrg (n + 3)) (s:=(sevE (H.length + 1) (H.length + 2) (.int (4:Nat)) (.int y) (some (.int (least:Nat))) none none none none)) (H:=G) (i:=(b.h.length:Nat)) (j:=(least:Int) + 24) (hlen kG cl rfl) (ev_bin (ev_var rfl) ev_int rfl)
   rw [emin] at e1
   exact ex_assignComp (ev_compR (ev_bin (v:=.int (least + y % 2:Nat)) (ev_var rfl) (ev_bin (ev_var rfl) ev_int (bop_mod (a:=y) (b:=2) (by omega))) rfl) e1 ev_int rok hn cr)
  generalize ((List.range (rangeCount (least + y % 2:Nat) (min b.h.length (least + 24):Nat) 2)).map λj=>b.h.getD (least + y % 2 + 2 * j) 0)=wq at s6 wl wc
  obtain ⟨H2,e2,b2,p2,r2,q1,q2⟩:=compL_is (elt:=λv h=>ev thePrg (run thePrg (n + 3)) (.call 64 (.cons (.cvar 0) (.cons (.var 7) .nil))) (put (maskE [0,3] (sevE (H.length + 1) (H.length + 2) (.int (4:Nat)) (.int y) (some (.int (least:Nat))) none (some (.ref G.length)) none none)) 7 v) h) (r:=G.length) (l:=ci wq) (λ_=>.bool true)
   (λh=>∃ b',And4 (Post G T b h T b') (h[G.length]?=some (.list (ci wq))) (b'.S=b.S) (b'.R=b.R)) (λh w_=>by obtain ⟨_,_,q,_,_⟩:=w_;exact q) (ci wq) [] (G ++ [.list (ci wq)]) (by
    rintro v hv h ⟨b',p,q,q1,q2⟩
    obtain ⟨j,hj,rfl⟩:=List.mem_map.mp hv
    have c':CL h b' (H.length + 1) (H.length + 2):=by
     have:=cl.st p.s
     exact ⟨by rw [p.f.rb];exact this.c0,by rw [p.f.rh];exact this.c3⟩
    obtain ⟨h',e',p'⟩:=sev_drop (n:=n) p.k c' (e:=put (maskE [0,3] (sevE (H.length + 1) (H.length + 2) (.int (4:Nat)) (.int y) (some (.int (least:Nat))) none (some (.ref G.length)) none none)) 7 (.int (j:Nat))) (i:=.var 7) (j:=j) rfl (by rw [q1];exact wl j hj) (ev_var rfl) (List.prefix_refl _)
    exact ⟨h',e',_,p.trans p',(p'.s.keep q (kG.z _ (Nat.le_refl _)) rfl).1,q1,q2⟩) ⟨b,⟨kG.pre pre1,St.pre pre1,Fx.refl b⟩,by simp,rfl,rfl⟩
  have hbs:∀ l:List V,bools? (l.map λ_=>V.bool true)=some (l.map λ_=>true):=λl=>by
   induction l with
   | nil=>rfl
   | cons a l ih=>simp only [List.map_cons,bools?,ih,Option.map_some]
  have hl8:(H2 ++ [O.list ([] ++ (ci wq).map λ_=>V.bool true)])[H2.length]?=some (.list ((ci wq).map λ_=>V.bool true)):=by simp
  have s7:EX (run thePrg (n + 3)) (.ret (.all (.comp (.call 64 (.cons (.cvar 0) (.cons (.var 7) .nil))) 7 [0,3] (.var 6)))) (sevE (H.length + 1) (H.length + 2) (.int (4:Nat)) (.int y) (some (.int (least:Nat))) none (some (.ref G.length)) none none) (G ++ [.list (ci wq)]) (.ret (.bool true) (H2 ++ [.list ([] ++ (ci wq).map λ_=>.bool true)])) :=
   ex_ret (ev_all (ev_comp (ev_var rfl) (by simp) wc e2) hl8 (by simpa using wc) (hbs (ci wq)) (by simp))
  exact fin (exs_nx st1 (exs_ret (ex_ite_t (tv_b (ev_cmp (ev_var rfl) ev_int rfl)) (exs_nx s4 (exs_nx s6 (exs_ret s7)))))) ⟨p2.k.pre pre1,p2.s.trans (St.pre pre1),p2.f⟩ q1 q2
 ·have y5:y % 5 < 5:=Nat.mod_lt _ (by exact Nat.succ_pos _)
  obtain ⟨r,e,H2,v,b2,rfl,p2,q1,q2⟩:=ex_forR (call:=run thePrg (n + 3)) (x:=8) (A:=.int 0) (B:=.bin .add (.int 1) (.bin .mod (.var 2) (.int 5))) (C:=.int 1) (body:=.cons (.ite (.not (.call 64 (.cons (.cvar 0) (.cons (.idx (.cvar 3) (.idx (.list (.cons (.int 0) (.cons (.bin .fdiv (.len (.cvar 3)) (.int 2)) (.cons (.neg 1) .nil)))) (.bin .sub (.var 1) (.int 1)))) .nil)))) (.cons (.ret (.bool false)) .nil) .nil) .nil)
   (s:=(sevE (H.length + 1) (H.length + 2) (.int way) (.int y) none none none none none)) (H:=G) (i:=0) (j:=(1 + y % 5:Nat)) (k:=1)
   (λr=>Ex3 λH2 v b'=>And4 (r = .nx (sevE (H.length + 1) (H.length + 2) (.int way) (.int y) none none none none v) H2) (Post G T b H2 T b') (b'.S=b.S) (b'.R=b.R))
   (λt e h=>Ex2 λv b'=>And5 (e=(sevE (H.length + 1) (H.length + 2) (.int way) (.int y) none none none none v)) (Post G T b h T b') (b'.S=b.S) (b'.R=b.R) (b'.h.length + t=b.h.length))
   ev_int (ev_bin ev_int (ev_bin (ev_var rfl) ev_int (bop_mod (a:=y) (b:=5) (by exact Nat.succ_pos _))) (by show some (V.int (1 + _),_)=_;rw [show (1:Int) + (y % 5:Nat)=((1 + y % 5:Nat):Int) by rfl])) ev_int (range_ok (by lia)) ⟨none,b,rfl,⟨kG,⟨λ_ _=>rfl,Md.pre (List.prefix_refl _)⟩,Fx.refl b⟩,rfl,rfl,rfl⟩ (by
    rw [range_cnt]
    rintro t e h ht ⟨v,b',rfl,p,q1,q2,q3⟩
    have lh':(b'.h.map fun (k:Nat)=>V.int k).length < capL:=by (rw [List.length_map];exact p.k.caph)
    have c':CL h b' (H.length + 1) (H.length + 2):=by
     have:=cl.st p.s
     exact ⟨by rw [p.f.rb];exact this.c0,by rw [p.f.rh];exact this.c3⟩
    have c2:CL (h ++ [.list [.int 0,.int (b'.h.length / 2:Nat),.int (-1)]]) b' (H.length + 1) (H.length + 2):=⟨get_app c'.c0,get_app c'.c3⟩
    have hl:lenOf (.ref b'.rh) h=some b'.h.length:=by rw [lenL p.k.l.oh lh'];simp
    have le:EV (run thePrg (n + 3)) (.list (.cons (.int 0) (.cons (.bin .fdiv (.len (.cvar 3)) (.int 2)) (.cons (.neg 1) .nil)))) (put (sevE (H.length + 1) (H.length + 2) (.int way) (.int y) none none none none v) 8 (.int (0 + 1 * (t:Nat)))) h (.ref h.length) (h ++ [.list [.int 0,.int (b'.h.length / 2:Nat),.int (-1)]]) :=
     ev_list (evs_cons ev_int (evs_cons (ev_bin (ev_len (ev_cvar rfl c'.c3) hl) ev_int (bop_fdiv (a:=b'.h.length) (b:=2) (by exact Nat.succ_pos _) (by exact Nat.le_add_left _ _))) (evs_cons ev_neg evs_nil)))
    have k2:=p.k.pre (pre1 (G:=[O.list [.int 0,.int (b'.h.length / 2:Nat),.int (-1)]]))
    have pick:∃ j ∈ b'.h,EV (run thePrg (n + 3)) (.idx (.cvar 3) (.idx (.list (.cons (.int 0) (.cons (.bin .fdiv (.len (.cvar 3)) (.int 2)) (.cons (.neg 1) .nil)))) (.bin .sub (.var 1) (.int 1)))) (put (sevE (H.length + 1) (H.length + 2) (.int way) (.int y) none none none none v) 8 (.int (0 + 1 * (t:Nat)))) h (.int (j:Nat)) (h ++ [.list [.int 0,.int (b'.h.length / 2:Nat),.int (-1)]]):=by
     have hpos:0 < b'.h.length:=by lia
     have at_:∀ {i:Nat} (hi:i < b'.h.length),(b'.h.map fun (k:Nat)=>V.int k)[i]?=some (.int (b'.h[i]:Nat)):=λhi=>by rw [List.getElem?_map,List.getElem?_eq_getElem hi];rfl
     have l3:(h ++ [O.list [V.int 0,.int (b'.h.length / 2:Nat),.int (-1)]])[h.length]?=some (.list [V.int 0,.int (b'.h.length / 2:Nat),.int (-1)]):=by exact get_end
     have c3v:EV (run thePrg (n + 3)) (.cvar 3) (put (sevE (H.length + 1) (H.length + 2) (.int way) (.int y) none none none none v) 8 (.int (0 + 1 * (t:Nat)))) h (.ref b'.rh) h:=ev_cvar rfl c'.c3
     have sub:∀ {h':Hp},EV (run thePrg (n + 3)) (.bin .sub (.var 1) (.int 1)) (put (sevE (H.length + 1) (H.length + 2) (.int way) (.int y) none none none none v) 8 (.int (0 + 1 * (t:Nat)))) h' (.int ((way - 1:Nat):Int)) h':=ev_bin (ev_var rfl) ev_int (by show some (V.int ((way:Int) - 1),_)=_;rw [show (way:Int) - 1=((way - 1:Nat):Int) by lia])
     rcases (by lia:way=1∨way=2∨way=3) with w | w | w
     ·exact ⟨_,List.getElem_mem hpos,ev_idx c3v (ev_idx le sub (idxL (i:=0) l3 (by simp [capL]) (by rw [w]) rfl)) (idxL (i:=0) k2.l.oh lh' rfl (at_ hpos))⟩
     ·exact ⟨_,List.getElem_mem (by lia:b'.h.length / 2 < b'.h.length),ev_idx c3v (ev_idx le sub (idxL (i:=1) l3 (by simp [capL]) (by rw [w]) rfl)) (idxL (i:=b'.h.length / 2) k2.l.oh lh' rfl (at_ (by lia)))⟩
     ·exact ⟨_,List.getElem_mem (by lia:b'.h.length - 1 < b'.h.length),ev_idx c3v (ev_idx le sub (idxL (i:=2) l3 (by simp [capL]) (by rw [w]) rfl)) (idxN (i:=b'.h.length - 1) k2.l.oh lh' (by decide) (by simp;lia) (at_ (by lia)))⟩
    obtain ⟨j,hj,hi⟩:=pick
    obtain ⟨H3,e3,p3⟩:=sev_drop (n:=n) p.k c' rfl (p.k.m.hl j hj) hi pre1
    refine ⟨_,exs_nx (ex_ite_f (tv_b (ev_not e3 rfl rfl)) exs_nil) exs_nil,some (.int (0 + 1 * (t:Nat))),b'.less j,rfl,p.trans p3,q1,q2,?_⟩
    have:=less_len p.k.m.hs hj
    show (b'.h.filter _).length + (t + 1)=_
    lia) (by
    rintro e h ⟨v,b',rfl,p,q1,q2,q3⟩
    exact ⟨h,v,b',rfl,p,q1,q2⟩)
  exact fin (exs_nx st1 (exs_nx (ex_ite_f (tv_b (ev_cmp (ev_var rfl) ev_int (by show some ((way:Int) == 4)=some false;exact congrArg some (beq_eq_false_iff_ne.mpr (by omega))))) exs_nil) (exs_nx e (exs_ret (ex_ret ev_bool))))) p2 q1 q2
end
section
variable {H:Hp} {T:Nat→Nat} {b:Bo} {n:Nat}
noncomputable def actMid:S:=.ite (.cmp .eq (.var 1) (.int 0)) (.cons (.assign 4 (.and (.var 4) (.call 63 (.cons (.var 0) (.cons (.var 2) (.cons (.bin .add (.int 1) (.bin .mod (.bin .fdiv (.var 2) (.int 27)) (.int 9))) .nil)))))) .nil) (.cons (.ite (.cmp .lt (.var 1) (.int 5)) (.cons (.assign 4 (.and (.var 4) (.call 67 (.cons (.var 0) (.cons (.var 1) (.cons (.var 2) .nil)))))) .nil) (.cons (.ite (.cmp .eq (.var 1) (.int 5)) (.cons (.assign 5 (.idx (.var 3) (.bin .mod (.var 2) (.len (.var 3))))) (.cons (.assign 4 (.and (.var 4) (.and (.call 64 (.cons (.var 0) (.cons (.var 5) .nil))) (.and (.call 64 (.cons (.var 0) (.cons (.var 5) .nil))) (.call 64 (.cons (.var 0) (.cons (.bin .mod (.bin .fdiv (.var 2) (.int 7)) (.len (.key (.var 0) 3))) .nil))))))) .nil)) (.cons (.ite (.cmp .eq (.var 1) (.int 6)) (.cons (.expr (.meth (.key (.var 0) 79) 84 .nil)) (.cons (.while (.cmp .gt (.len (.var 3)) (.int 0)) (.cons (.expr (.pop (.var 3))) .nil)) (.cons (.assign 4 (.and (.var 4) (.and (.call 66 (.cons (.var 0) (.cons (.var 2) .nil))) (.call 64 (.cons (.var 0) (.cons (.bin .mod (.var 2) (.len (.key (.var 0) 3))) .nil)))))) (.cons (.ite (.cmp .eq (.bin .mod (.bin .fdiv (.var 2) (.int 2)) (.int 2)) (.int 0)) (.cons (.assign 4 (.and (.var 4) (.call 62 (.cons (.var 0) (.cons (.key (.var 0) 76) .nil))))) .nil) .nil) .nil)))) (.cons (.assign 6 (.idx (.key (.var 0) 78) (.idx (.var 3) (.neg 1)))) (.cons (.assign 4 (.and (.var 4) (.and (.call 62 (.cons (.var 0) (.cons (.bin .sub (.var 6) (.int 1)) .nil))) (.call 62 (.cons (.var 0) (.cons (.idx (.key (.var 0) 78) (.idx (.var 3) (.int 0))) .nil)))))) .nil))) .nil)) .nil)) .nil)
structure Grow (b b':Bo) (r s:Nat):Prop where
 r:b'.R.length ≤ b.R.length + r
 s:b'.S.length ≤ b.S.length + s
 s0:b.S.length ≤ b'.S.length
theorem Bk.lenM (k:Bk H T b):lenOf (.ref b.rm) H=some b.S.length:=by rw [lenL k.l.om (by rw [List.length_map,k.m.len];exact k.capS),List.length_map,k.m.len]
theorem Bk.lenH (k:Bk H T b):lenOf (.ref b.rh) H=some b.h.length:=by rw [lenL k.l.oh (by simpa using k.caph)];simp
theorem Bk.hAt (k:Bk H T b) {i:Nat} (hi:i < b.h.length) {z:Int} (hz:z=i):getIdx (.ref b.rh) (.int z) H=some (.int (b.h[i]:Nat)) :=
 idxL (i:=i) k.l.oh (by simpa using k.caph) hz (by rw [List.getElem?_map,List.getElem?_eq_getElem hi];rfl)
theorem Bk.sAt (k:Bk H T b) {j:Nat} (hj:j < b.S.length):getIdx (.ref b.rs) (.int (j:Nat)) H=some (.int b.S[j]) :=
 idxL (i:=j) k.l.os (by simpa using k.capS) rfl (by rw [List.getElem?_map,List.getElem?_eq_getElem hj];rfl)
theorem act_mid (k:Bk H T b) (h13:13 ≤ b.h.length) (hr:b.R.length + 1 ≤ 35) (hl:b.S.length + 20 ≤ 1000000) {way:Nat} (hw:way < 8) (y:Nat) :
  Ex5 λH' T' b' v5 v6=>And3 (EX (run thePrg (n + 9)) actMid [some (.ref b.rb),some (.int way),some (.int y),some (.ref b.rh),some (.bool true),none,none] H (.nx [some (.ref b.rb),some (.int way),some (.int y),some (.ref b.rh),some (.bool true),v5,v6] H')) (Post H T b H' T' b') (Grow b b' 1 20):=by
 have hS:=k.hS
 have hS0:0 < b.S.length:=by lia
 have tw:∀ {e:En} (z:Int) (c:Bool),look e 1=some (.int way)→(((way:Nat):Int) == z)=c→TV (run thePrg (n + 9)) (.cmp .eq (.var 1) (.int z)) e H c H:=λz c e1 hc=>tv_b (ev_cmp (ev_var e1) ev_int (congrArg some hc))
 by_cases w0:way=0
 ·have m9:y / 27 % 9 < 9:=Nat.mod_lt _ (by exact Nat.succ_pos _)
  obtain ⟨H',T',b',e1,p1,r1,s1,_⟩:=l_burst (n:=n) k hr (c:=1 + y / 27 % 9) (by exact Nat.le_add_right _ _) (by lia) (by lia) y
  exact ⟨H',T',b',none,none,ex_ite_t (tw 0 true rfl (by rw [w0];rfl)) (exs_nx (ex_assign (ev_and_t (ev_var rfl) rfl (ev_call (evs_cons (ev_var rfl) (evs_cons (ev_var rfl) (evs_cons (ev_bin ev_int (ev_bin (ev_bin (ev_var rfl) ev_int (bop_fdiv (a:=y) (b:=27) (by exact Nat.succ_pos _) (by exact Nat.le_add_left _ _))) ev_int (bop_mod (a:=y / 27) (b:=9) (by exact Nat.succ_pos _))) (by show some (V.int (1 + _),_)=_;rw [show (1:Int) + (y / 27 % 9:Nat)=((1 + y / 27 % 9:Nat):Int) by rfl])) evs_nil))) e1))) exs_nil),
   p1,by exact Nat.le_of_eq ‹_›,by lia,by lia⟩
 ·have i0:=tw (e:=[some (.ref b.rb),some (.int way),some (.int y),some (.ref b.rh),some (.bool true),none,none]) 0 false rfl (beq_eq_false_iff_ne.mpr (by lia))
  have lt5:∀ c,decide (((way:Nat):Int) < 5)=c→TV (run thePrg (n + 9)) (.cmp .lt (.var 1) (.int 5)) [some (.ref b.rb),some (.int way),some (.int y),some (.ref b.rh),some (.bool true),none,none] H c H:=λc hc=>tv_b (ev_cmp (ev_var rfl) ev_int (congrArg some hc))
  by_cases w5:way < 5
  ·obtain ⟨H',b',e1,p1,q1,q2⟩:=l_several (n:=n + 5) k h13 (way:=way) (by lia) y
   exact ⟨H',T,b',none,none,ex_ite_f i0 (exs_nx (ex_ite_t (lt5 true (decide_eq_true (by exact Int.ofNat_lt.mpr ‹_›))) (exs_nx (ex_assign (ev_and_t (ev_var rfl) rfl (ev_call (evs_cons (ev_var rfl) (evs_cons (ev_var rfl) (evs_cons (ev_var rfl) evs_nil))) e1))) exs_nil)) exs_nil),p1,by rw [q2];exact Nat.le_add_right _ _,by rw [q1];exact Nat.le_add_right _ _,by rw [q1];exact Nat.le_refl _⟩
  ·have i5:=lt5 false (decide_eq_false (by lia))
   by_cases c5:way=5
   ·have hi:y % b.h.length < b.h.length:=Nat.mod_lt _ (by lia)
    have hj:=k.m.hl _ (List.getElem_mem hi)
    have hj2:y / 7 % b.S.length < b.S.length:=Nat.mod_lt _ hS0
    have s5:EX (run thePrg (n + 9)) (.assign 5 (.idx (.var 3) (.bin .mod (.var 2) (.len (.var 3))))) [some (.ref b.rb),some (.int way),some (.int y),some (.ref b.rh),some (.bool true),none,none] H (.nx [some (.ref b.rb),some (.int way),some (.int y),some (.ref b.rh),some (.bool true),some (.int (b.h[y % b.h.length]:Nat)),none] H) :=
     ex_assign (ev_idx (ev_var rfl) (ev_bin (ev_var rfl) (ev_len (ev_var rfl) k.lenH) (bop_mod (a:=y) (b:=b.h.length) (by lia))) (k.hAt hi rfl))
    generalize b.h[y % b.h.length]=j at s5 hj
    obtain ⟨H1,e1,p1⟩:=l_drop (n:=n + 6) k hj
    obtain ⟨H2,e2,p2⟩:=l_drop (n:=n + 6) p1.k (j:=j) hj
    obtain ⟨H3,e3,p3⟩:=l_drop (n:=n + 6) p2.k (j:=y / 7 % b.S.length) hj2
    exact ⟨H3,T,_,some (.int (j:Nat)),none,ex_ite_f i0 (exs_nx (ex_ite_f i5 (exs_nx (ex_ite_t (tw 5 true rfl (by rw [c5];rfl)) (exs_nx s5 (exs_nx (ex_assign (ev_and_t (ev_var rfl) rfl (ev_and_t (ev_call (evs_cons (ev_var rfl) (evs_cons (ev_var rfl) evs_nil)) e1) rfl (ev_and_t (ev_call (evs_cons (ev_var rfl) (evs_cons (ev_var rfl) evs_nil)) e2) rfl
      (ev_call (evs_cons (ev_var rfl) (evs_cons (ev_bin (ev_bin (ev_var rfl) ev_int (bop_fdiv (a:=y) (b:=7) (by exact Nat.succ_pos _) (by exact Nat.le_add_left _ _))) (ev_len (ev_key (ev_var rfl) (key_of p2.k.l.ob rfl)) p2.k.lenM) (bop_mod (a:=y / 7) (b:=b.S.length) hS0)) evs_nil)) e3))))) exs_nil))) exs_nil)) exs_nil),(p1.trans p2).trans p3,Nat.le_add_right _ _,Nat.le_add_right _ _,Nat.le_refl _⟩
   ·have e5:=tw (e:=[some (.ref b.rb),some (.int way),some (.int y),some (.ref b.rh),some (.bool true),none,none]) 5 false rfl (beq_eq_false_iff_ne.mpr (by lia))
    by_cases c6:way=6
    ·obtain ⟨H1,H2,T',la,e1,e2,p2⟩:=l_clear (n:=n + 8) k (e:=[some (.ref b.rb),some (.int way),some (.int y),some (.ref b.rh),some (.bool true),none,none]) rfl rfl
     obtain ⟨H3,e3,p3⟩:=l_agrees (n:=n + 6) p2.k hS0 y
     have k3:=p2.k.pre p3
     have hj2:y % b.S.length < b.S.length:=Nat.mod_lt _ hS0
     obtain ⟨H4,e4,p4⟩:=l_drop (n:=n + 6) k3 (j:=y % b.S.length) hj2
     have q4:Post H T b H4 T' ((b.none la).less (y % b.S.length)):=p2.trans ⟨p4.k,(St.pre p3).trans p4.s,p4.f⟩
     have s4:EX (run thePrg (n + 9)) (.assign 4 (.and (.var 4) (.and (.call 66 (.cons (.var 0) (.cons (.var 2) .nil))) (.call 64 (.cons (.var 0) (.cons (.bin .mod (.var 2) (.len (.key (.var 0) 3))) .nil)))))) [some (.ref b.rb),some (.int way),some (.int y),some (.ref b.rh),some (.bool true),none,none] H2 (.nx [some (.ref b.rb),some (.int way),some (.int y),some (.ref b.rh),some (.bool true),none,none] H4) :=
      ex_assign (ev_and_t (ev_var rfl) rfl (ev_and_t (ev_call (evs_cons (ev_var rfl) (evs_cons (ev_var rfl) evs_nil)) e3) rfl (ev_call (evs_cons (ev_var rfl) (evs_cons (ev_bin (ev_var rfl) (ev_len (ev_key (ev_var rfl) (key_of k3.l.ob rfl)) k3.lenM) (bop_mod (a:=y) (b:=b.S.length) hS0)) evs_nil)) e4)))
     have ev0:∀ c,(((y / 2 % 2:Nat):Int) == 0)=c→TV (run thePrg (n + 9)) (.cmp .eq (.bin .mod (.bin .fdiv (.var 2) (.int 2)) (.int 2)) (.int 0)) [some (.ref b.rb),some (.int way),some (.int y),some (.ref b.rh),some (.bool true),none,none] H4 c H4:=λc hc =>
      tv_b (ev_cmp (ev_bin (ev_bin (ev_var rfl) ev_int (bop_fdiv (a:=y) (b:=2) (by exact Nat.succ_pos _) (by exact Nat.le_add_left _ _))) ev_int (bop_mod (a:=y / 2) (b:=2) (by exact Nat.succ_pos _))) ev_int (congrArg some hc))
     have wrap:∀ {H5:Hp},EX (run thePrg (n + 9)) (.ite (.cmp .eq (.bin .mod (.bin .fdiv (.var 2) (.int 2)) (.int 2)) (.int 0)) (.cons (.assign 4 (.and (.var 4) (.call 62 (.cons (.var 0) (.cons (.key (.var 0) 76) .nil))))) .nil) .nil) [some (.ref b.rb),some (.int way),some (.int y),some (.ref b.rh),some (.bool true),none,none] H4 (.nx [some (.ref b.rb),some (.int way),some (.int y),some (.ref b.rh),some (.bool true),none,none] H5) →
       EX (run thePrg (n + 9)) actMid [some (.ref b.rb),some (.int way),some (.int y),some (.ref b.rh),some (.bool true),none,none] H (.nx [some (.ref b.rb),some (.int way),some (.int y),some (.ref b.rh),some (.bool true),none,none] H5):=λh =>
      ex_ite_f i0 (exs_nx (ex_ite_f i5 (exs_nx (ex_ite_f e5 (exs_nx (ex_ite_t (tw 6 true rfl (by rw [c6];rfl)) (exs_nx e1 (exs_nx e2 (exs_nx s4 (exs_nx h exs_nil))))) exs_nil)) exs_nil)) exs_nil)
     by_cases c:y / 2 % 2=0
     ·obtain ⟨H5,b5,e6,p5,q5⟩:=l_add (n:=n + 6) q4.k (sq:=(b.B:Int)) (λ_=>⟨Int.le_refl _,by show ((b.B:Nat):Int) ≤ ((b.B + b.R.length:Nat):Int);lia⟩) (by show b.S.length + 1 ≤ _;lia)
      refine ⟨H5,T',b5,none,none,wrap (ex_ite_t (ev0 true (by rw [c];rfl)) (exs_nx (ex_assign (ev_and_t (ev_var rfl) rfl (ev_call (evs_cons (ev_var rfl) (evs_cons (ev_key (ev_var rfl) (key_of q4.k.l.ob rfl)) evs_nil)) e6))) exs_nil)),q4.trans p5,?_⟩
      split at q5
      ·obtain ⟨a,rfl⟩:=q5
       exact ⟨Nat.le_add_right _ _,by show (b.S ++ _).length ≤ _;rw [List.length_append,List.length_singleton];lia,by show _ ≤ (b.S ++ _).length;rw [List.length_append];exact Nat.le_add_right _ _⟩
      ·subst q5
       exact ⟨Nat.le_add_right _ _,Nat.le_add_right _ _,Nat.le_refl _⟩
     ·exact ⟨H4,T',_,none,none,wrap (ex_ite_f (ev0 false (beq_eq_false_iff_ne.mpr (by lia))) exs_nil),q4,Nat.le_add_right _ _,Nat.le_add_right _ _,Nat.le_refl _⟩
    ·have e6:=tw (e:=[some (.ref b.rb),some (.int way),some (.int y),some (.ref b.rh),some (.bool true),none,none]) 6 false rfl (beq_eq_false_iff_ne.mpr (by lia))
     rcases k.last with z | ⟨h',j,a,s,eh,_,hs,_⟩
     ·rw [z] at h13;simp at h13
     ·have hjl:j < b.S.length:=k.m.hl j (by rw [eh];simp)
      have es:b.S[j]=s:=by rw [List.getElem?_eq_getElem hjl] at hs;exact Option.some.inj hs
      have hlast:getIdx (.ref b.rh) (.int (-1)) H=some (.int (j:Nat)):=idxN (i:=h'.length) k.l.oh (by simpa using k.caph) (by decide) (by rw [eh];simp;lia) (by rw [eh];simp)
      have s6:EX (run thePrg (n + 9)) (.assign 6 (.idx (.key (.var 0) 78) (.idx (.var 3) (.neg 1)))) [some (.ref b.rb),some (.int way),some (.int y),some (.ref b.rh),some (.bool true),none,none] H (.nx [some (.ref b.rb),some (.int way),some (.int y),some (.ref b.rh),some (.bool true),none,some (.int s)] H) :=
       ex_assign (ev_idx (ev_key (ev_var rfl) (key_of k.l.ob rfl)) (ev_idx (ev_var rfl) ev_neg hlast) (by rw [k.sAt hjl,es]))
      have no:letIt b (s - 1)=false:=by rw [letIt_last eh hs];exact decide_eq_false (by lia)
      obtain ⟨H1,b1,e1,p1,q1⟩:=l_add (n:=n + 6) k (sq:=s - 1) (λq=>by rw [no] at q;cases q) (by lia)
      rw [no] at q1
      have q1:b1=b:=q1
      subst q1
      have hpos:0 < b1.h.length:=by lia
      have hj0:=k.m.hl _ (List.getElem_mem hpos)
      obtain ⟨H2,b2,e2,p2,q2⟩:=l_add (n:=n + 6) p1.k (sq:=b1.S[b1.h[0]]) (λ_=>k.n.sb _ (List.getElem_mem _)) (by lia)
      refine ⟨H2,T,b2,none,some (.int s),ex_ite_f i0 (exs_nx (ex_ite_f i5 (exs_nx (ex_ite_f e5 (exs_nx (ex_ite_f e6 (exs_nx s6 (exs_nx (ex_assign (ev_and_t (ev_var rfl) rfl (ev_and_t (ev_call (evs_cons (ev_var rfl) (evs_cons (ev_bin (ev_var rfl) ev_int rfl) evs_nil)) e1) rfl
       (ev_call (evs_cons (ev_var rfl) (evs_cons (ev_idx (ev_key (ev_var rfl) (key_of p1.k.l.ob rfl)) (ev_idx (ev_var rfl) ev_int (p1.k.hAt hpos rfl)) (p1.k.sAt hj0)) evs_nil)) e2)))) exs_nil))) exs_nil)) exs_nil)) exs_nil),p1.trans p2,?_⟩
      split at q2
      ·obtain ⟨a,rfl⟩:=q2
       exact ⟨Nat.le_add_right _ _,by show (b1.S ++ _).length ≤ _;rw [List.length_append,List.length_singleton];lia,by show _ ≤ (b1.S ++ _).length;rw [List.length_append];exact Nat.le_add_right _ _⟩
      ·subst q2
       exact ⟨Nat.le_add_right _ _,Nat.le_add_right _ _,Nat.le_refl _⟩
theorem l_act (k:Bk H T b) (hr:b.R.length + 2 ≤ 35) (hl:b.S.length + 40 ≤ 1000000) {way:Nat} (hw:way < 8) (y:Nat):Ex3 λH' T' b'=>And3 (run thePrg (n + 10) 68 [.ref b.rb,.int way,.int y] H = .val (.bool true) H') (Post H T b H' T' b') (Grow b b' 2 40):=by
 have k0:=k.pre (pre1 (G:=[O.frame]))
 have hS:=k.hS
 have s1:EX (run thePrg (n + 9)) (.assign 3 (.key (.var 0) 77)) [some (.ref b.rb),some (.int way),some (.int y),none,none,none,none] (H ++ [.frame]) (.nx [some (.ref b.rb),some (.int way),some (.int y),some (.ref b.rh),none,none,none] (H ++ [.frame])):=ex_assign (ev_key (ev_var rfl) (key_of k0.l.ob rfl))
 have s2:EX (run thePrg (n + 9)) (.assign 4 (.bool true)) [some (.ref b.rb),some (.int way),some (.int y),some (.ref b.rh),none,none,none] (H ++ [.frame]) (.nx [some (.ref b.rb),some (.int way),some (.int y),some (.ref b.rh),some (.bool true),none,none] (H ++ [.frame])):=ex_assign ev_bool
 have t3:∀ c,decide (((b.h.length:Nat):Int) < 13)=c→TV (run thePrg (n + 9)) (.cmp .lt (.len (.var 3)) (.int 13)) [some (.ref b.rb),some (.int way),some (.int y),some (.ref b.rh),some (.bool true),none,none] (H ++ [.frame]) c (H ++ [.frame]):=λc hc=>tv_b (ev_cmp (ev_len (ev_var rfl) k0.lenH) ev_int (congrArg some hc))
 have st:Ex3 λH1 T1 b1=>And4 (EX (run thePrg (n + 9)) (.ite (.cmp .lt (.len (.var 3)) (.int 13)) (.cons (.assign 4 (.call 63 (.cons (.var 0) (.cons (.var 2) (.cons (.int 14) .nil))))) .nil) .nil) [some (.ref b.rb),some (.int way),some (.int y),some (.ref b.rh),some (.bool true),none,none] (H ++ [.frame]) (.nx [some (.ref b.rb),some (.int way),some (.int y),some (.ref b.rh),some (.bool true),none,none] H1)) (Post H T b H1 T1 b1) (Grow b b1 1 14) (13 ≤ b1.h.length):=by
  by_cases c:b.h.length < 13
  ·obtain ⟨H1,T1,b1,e1,p1,r1,r2,r3⟩:=l_burst (n:=n) k0 (by exact Nat.le_of_lt ‹_›) (c:=14) (by exact Nat.succ_pos _) (by exact Nat.le_add_left _ _) (by lia) y
   exact ⟨H1,T1,b1,ex_ite_t (t3 true (decide_eq_true (by exact Int.ofNat_lt.mpr ‹_›))) (exs_nx (ex_assign (ev_call (evs_cons (ev_var rfl) (evs_cons (ev_var rfl) (evs_cons ev_int evs_nil))) e1)) exs_nil),⟨p1.k,(St.pre pre1).trans p1.s,p1.f⟩,⟨by exact Nat.le_of_eq ‹_›,by exact Nat.le_of_eq ‹_›,by lia⟩,by lia⟩
  ·exact ⟨_,T,b,ex_ite_f (t3 false (decide_eq_false (by lia))) exs_nil,⟨k0,St.pre pre1,Fx.refl b⟩,⟨by exact Nat.le_add_right _ _,by exact Nat.le_add_right _ _,by exact Nat.le_refl _⟩,by exact Nat.not_lt.mp ‹_›⟩
 obtain ⟨H1,T1,b1,e3,p1,g1,h13⟩:=st
 have gr:=g1.r
 have gs:=g1.s
 obtain ⟨H2,T2,b2,v5,v6,e4,p2,g2⟩:=act_mid (n:=n) p1.k h13 (by exact Nat.lt_of_le_of_lt ‹_› ‹_›) (by lia) hw y
 rw [p1.f.rb,p1.f.rh] at e4
 have:=p1.k.hS
 have:=g2.s0
 have p12:=p1.trans p2
 obtain ⟨H3,e5,p3⟩:=l_agrees (n:=n + 6) p12.k (by lia) y
 rw [p12.f.rb] at e5
 have gr2:=g2.r
 have gs2:=g2.s
 have g10:=g1.s0
 exact ⟨H3,T2,b2,run_ret (D:=⟨3,7,b_law_act,[]⟩) rfl rfl rfl (exs_nx s1 (exs_nx s2 (exs_nx e3 (exs_nx e4 (exs_ret (ex_ret (ev_and_t (ev_var rfl) rfl (ev_call (evs_cons (ev_var rfl) (evs_cons (ev_var rfl) evs_nil)) e5)))))))),
  ⟨p12.k.pre p3,p12.s.trans (St.pre p3),p12.f⟩,⟨by lia,by lia,by exact Nat.le_trans ‹_› ‹_›⟩⟩
end
section
variable {H:Hp} {T:Nat→Nat} {b:Bo} {n:Nat}
theorem Bk.md0 {H':Hp} (h:Bk H T b) (p:Md [18,19] [0] T H H'):Bk H' T b :=
 ⟨h.t.md p (λ_ _=>rfl) rfl,h.m.md p (λ_ _=>rfl) rfl,h.l.md p (λ_ _=>rfl) rfl,h.n,λi hi=>h.z i (Nat.le_trans p.1 hi)⟩
theorem atW_snoc {u:List UInt8} {W:List Wr} {w:Wr}:atW u (W ++ [w])=if w.1=u then [.bool true,.int (wkd w),.bytes (w.2.getD [])] else atW u W:=by
 unfold atW;rw [List.foldl_append];rfl
theorem l_at (k:Bk H T b) (u:List UInt8) {m:Nat} (hm:m ≤ b.R.length):Ex2 λr H'=>And3 (run thePrg (n + 1) 61 [.ref b.rb,.bytes u,.int (b.B + m:Nat)] H = .val (.ref r) H') (H <+: H') (H'[r]?=some (.tuple (atW u (b.R.reverse.take m)))):=by
 have k0:=k.pre (pre1 (G:=[O.frame]))
 have cw:(b.wr.map V.ref).length < capL:=by rw [List.length_map,k.l.wl];have:=k.n.rl;unfold capL;exact Nat.lt_of_le_of_lt ‹_› (by decide)
 have s1:EX (run thePrg n) (.assign 3 (.tuple (.cons (.bool false) (.cons (.int 0) (.cons (.bytes []) .nil))))) [some (.ref b.rb),some (.bytes u),some (.int (b.B + m:Nat)),none,none,none] (H ++ [.frame]) (.nx [some (.ref b.rb),some (.bytes u),some (.int (b.B + m:Nat)),some (.ref (H ++ [O.frame]).length),none,none] (H ++ [.frame] ++ [.tuple [.bool false,.int 0,.bytes []]])) :=
  ex_assign (ev_tuple (evs_cons ev_bool (evs_cons ev_int (evs_cons ev_bytes evs_nil))))
 have ht0:(H ++ [O.frame] ++ [O.tuple [.bool false,.int 0,.bytes []]])[(H ++ [O.frame]).length]?=some (.tuple [.bool false,.int 0,.bytes []]):=by simp
 have p0:H <+: H ++ [O.frame] ++ [O.tuple [.bool false,.int 0,.bytes []]]:=pre1.trans pre1
 generalize H ++ [O.frame] ++ [O.tuple [.bool false,.int 0,.bytes []]]=H1 at s1 ht0 p0
 generalize (H ++ [O.frame]).length=r0 at s1 ht0
 have k1:=k.pre p0
 have esl:EV (run thePrg n) (.sliceTo (.key (.var 0) 73) (.bin .sub (.var 2) (.key (.var 0) 76))) [some (.ref b.rb),some (.bytes u),some (.int (b.B + m:Nat)),some (.ref r0),none,none] H1 (.ref H1.length) (H1 ++ [.list ((b.wr.map V.ref).take m)]):=by
  have:=ev_slice_l (a:=.key (.var 0) 73) (k:=(m:Nat)) (ev_key (ev_var rfl) (key_of k1.l.ob rfl)) (ev_bin (call:=run thePrg n) (op:=.sub) (a:=.var 2) (b:=.key (.var 0) 76) (s:=[some (.ref b.rb),some (.bytes u),some (.int (b.B + m:Nat)),some (.ref r0),none,none]) (ev_var rfl) (ev_key (ev_var rfl) (key_of k1.l.ob rfl)) (by show some (V.int (((b.B + m:Nat):Int) - (b.B:Nat)),_)=_;rw [show ((b.B + m:Nat):Int) - (b.B:Nat)=(m:Nat) by lia])) (by omega) (by unfold capL;have:=k.n.rl;omega) k1.l.ow cw
  rw [Int.toNat_natCast] at this
  exact this
 have hsl:(H1 ++ [O.list ((b.wr.map V.ref).take m)])[H1.length]?=some (.list ((b.wr.map V.ref).take m)):=by simp
 have ltk:((b.wr.map V.ref).take m).length < capL:=by rw [List.length_take];lia
 obtain ⟨r,e,H2,r2,v4,v5,rfl,p2,o2⟩:=ex_forT (call:=run thePrg n) (xs:=[4,5]) (body:=.cons (.ite (.and (.cmp .eq (.var 4) (.var 1)) (.isNone (.var 5))) (.cons (.assign 3 (.tuple (.cons (.bool true) (.cons (.int 0) (.cons (.bytes []) .nil))))) .nil) (.cons (.ite (.cmp .eq (.var 4) (.var 1)) (.cons (.assign 3 (.tuple (.cons (.bool true) (.cons (.int 1) (.cons (.var 5) .nil))))) .nil) .nil) .nil)) .nil)
  (λr=>Ex4 λH2 r2 v4 v5=>And3 (r = .nx [some (.ref b.rb),some (.bytes u),some (.int (b.B + m:Nat)),some (.ref r2),v4,v5] H2) (H1 <+: H2) (H2[r2]?=some (.tuple (atW u (b.R.reverse.take m)))))
  (λt e h=>Ex3 λr2 v4 v5=>And3 (e = [some (.ref b.rb),some (.bytes u),some (.int (b.B + m:Nat)),some (.ref r2),v4,v5]) (H1 ++ [.list ((b.wr.map V.ref).take m)] <+: h) (h[r2]?=some (.tuple (atW u ((b.R.reverse.take m).take t)))))
  esl ltk (λt e h w_=>by obtain ⟨_,_,_,_,p,_⟩:=w_;exact get_pre p hsl) ⟨r0,none,none,rfl,List.prefix_refl _,get_app ht0⟩ (by
   rintro t v e h hv ⟨r2,v4,v5,rfl,p,o⟩
   have htm:t < m:=by
    have:=(List.getElem?_eq_some_iff.mp hv).1
    rw [List.length_take] at this;lia
   rw [List.getElem?_take_of_lt htm,List.getElem?_map] at hv
   obtain ⟨a,ha,rfl⟩:=Option.map_eq_some_iff.mp hv
   have htl:t < b.R.reverse.length:=by rw [List.length_reverse];exact Nat.lt_of_lt_of_le ‹_› ‹_›
   have hw:b.R.reverse[t]?=some b.R.reverse[t]:=List.getElem?_eq_getElem htl
   generalize b.R.reverse[t]=w at hw
   have oa:=get_pre (pre1.trans p) (k1.l.wr t a w ha hw)
   have nx:atW u ((b.R.reverse.take m).take (t + 1))=if w.1=u then [.bool true,.int (wkd w),.bytes (w.2.getD [])] else atW u ((b.R.reverse.take m).take t):=by
    rw [List.take_succ,List.getElem?_take_of_lt htm,hw]
    exact atW_snoc
   have tt:∀ c,(w.1 == u)=c→EV (run thePrg n) (.cmp .eq (.var 4) (.var 1)) [some (.ref b.rb),some (.bytes u),some (.int (b.B + m:Nat)),some (.ref r2),some (.bytes w.1),some (wv w.2)] h (.bool c) h:=λc hc=>ev_cmp (ev_var rfl) (ev_var rfl) (congrArg some hc)
   obtain ⟨w1,w2⟩:=w
   have tup:tupOf (.ref a) h=some [.bytes w1,wv w2]:=by unfold tupOf;dsimp only;rw [oa]
   by_cases c:w1=u
   ·have t1:=tt true (beq_iff_eq.mpr c)
    rw [if_pos c] at nx
    cases w2 with
    | none =>
     exact ⟨_,_,_,tup,rfl,exs_nx (ex_ite_t (tv_b (ev_and_t t1 rfl (ev_isNone (ev_var rfl) rfl))) (exs_nx (ex_assign (ev_tuple (evs_cons ev_bool (evs_cons ev_int (evs_cons ev_bytes evs_nil))))) exs_nil)) exs_nil,h.length,_,_,rfl,p.trans pre1,by rw [nx];simp [wkd]⟩
    | some v =>
     exact ⟨_,_,_,tup,rfl,exs_nx (ex_ite_f (tv_b (ev_and_t t1 rfl (ev_isNone (ev_var rfl) rfl))) (exs_nx (ex_ite_t (tv_b t1) (exs_nx (ex_assign (ev_tuple (evs_cons ev_bool (evs_cons ev_int (evs_cons (ev_var rfl) evs_nil))))) exs_nil)) exs_nil)) exs_nil,h.length,_,_,rfl,p.trans pre1,by rw [nx];simp [wkd,wv]⟩
   ·have t1:=tt false (beq_eq_false_iff_ne.mpr c)
    rw [if_neg c] at nx
    exact ⟨_,_,_,tup,rfl,exs_nx (ex_ite_f (tv_b (ev_and_f t1 rfl)) (exs_nx (ex_ite_f (tv_b t1) exs_nil) exs_nil)) exs_nil,r2,_,_,rfl,p,by rw [nx];exact o⟩) (by
   rintro e h ⟨r2,v4,v5,rfl,p,o⟩
   refine ⟨h,r2,v4,v5,rfl,pre1.trans p,?_⟩
   rw [o]
   congr 3
   rw [List.length_take,List.length_map,k.l.wl]
   exact List.take_of_length_le (by rw [List.length_take,List.length_reverse];exact Nat.le_refl _))
 exact ⟨r2,H2,run_ret (D:=⟨3,6,b_law_at,[]⟩) rfl rfl rfl (exs_nx s1 (exs_nx e (exs_ret (ex_ret (ev_var rfl))))),p0.trans p2,o2⟩
theorem l_get (k:Bk H T b) {u:List UInt8} (hu:u ∈ KS) {m:Nat} (hm:m ≤ b.R.length):Ex2 λr H'=>And3 (run thePrg (n + 7) 33 [.ref b.rt,.bytes u,.int (b.B + m:Nat)] H = .val (.ref r) H') (H <+: H') (H'[r]?=some (.tuple (gt ((ents u b.B b.R).find? λe=>decide (e.1 ≤ b.B + m))))):=by
 obtain ⟨A,Z,e,hA,hZ,hg⟩:=k.t.me.get hu (b.B + m)
 have s:=k.t.sk
 rw [e] at s
 have hl:u.length < 1000:=(by decide:∀ u ∈ KS,u.length < 1000) u hu
 have:=k.n.bd
 have:=k.n.rl
 rw [← hg]
 exact f_get k.t.tb s hl (by lia) hA hZ
theorem veqs_gt (o:Option Ent):veqs (gt o) (gt o)=some true:=by
 cases o with
 | none=>rfl
 | some e =>
  show (match veq (.bool true) (.bool true),(match veq (.int e.2.1) (.int e.2.1),(match veq (.bytes e.2.2) (.bytes e.2.2),some true with | some x,some y=>some (x && y) | _,_=>none) with | some x,some y=>some (x && y) | _,_=>none) with | some x,some y=>some (x && y) | _,_=>none)=some true
  show some ((true == true) && (((e.2.1:Int) == (e.2.1:Int)) && ((e.2.2 == e.2.2) && true)))=some true
  rw [beq_self_eq_true,beq_self_eq_true,beq_self_eq_true];rfl
theorem l_same (k:Bk H T b) {u:List UInt8} (hu:u ∈ KS) {m:Nat} (hm:m ≤ b.R.length) {e:En} {A B1 B2:E} {H1:Hp} (p1:H <+: H1) (h0:look e 0=some (.ref b.rb)) (hA:∀ G:Hp,H1 <+: G→EV (run thePrg (n + 7)) A e G (.bytes u) G) (hB1:∀ G:Hp,H1 <+: G→EV (run thePrg (n + 7)) B1 e G (.int (b.B + m:Nat)) G) (hB2:∀ G:Hp,H1 <+: G→EV (run thePrg (n + 7)) B2 e G (.int (b.B + m:Nat)) G) :
  ∃ H',TV (run thePrg (n + 7)) (.cmp .ne (.meth (.key (.var 0) 74) 86 (.cons A (.cons B1 .nil))) (.call 61 (.cons (.var 0) (.cons A (.cons B2 .nil))))) e H1 false H'∧H1 <+: H':=by
 have k1:=k.pre p1
 obtain ⟨r1,H2,e2,p2,o2⟩:=l_get (n:=n) k1 hu hm
 obtain ⟨r2,H3,e3,p3,o3⟩:=l_at (n:=n + 6) (k1.pre p2) u hm
 rw [at_all (B:=b.B)] at o3
 refine ⟨H3,tv_b (ev_cmp (ev_meth (ev_key (ev_var h0) (key_of k1.l.ob rfl)) (meth_at k1.t.tb rfl rfl) (evs_cons (hA _ (List.prefix_refl _)) (evs_cons (hB1 _ (List.prefix_refl _)) evs_nil)) e2) (ev_call (evs_cons (ev_var h0) (evs_cons (hA _ p2) (evs_cons (hB2 _ p2) evs_nil))) e3) ?_),p2.trans p3⟩
 show (veqH (.ref r1) (.ref r2) H3).map (!·)=some false
 unfold veqH
 dsimp only
 rw [get_pre p3 o2,o3]
 dsimp only
 rw [veqs_gt];rfl
end
noncomputable def RowsAt (H:Hp) (r:Nat) (rows:List (List UInt8 × List UInt8)):Prop:=∃ ps:List Nat,H[r]?=some (.list (ps.map .ref))∧ps.length=rows.length∧∀ (i p:Nat) (q:List UInt8 × List UInt8),ps[i]?=some p→rows[i]?=some q→H[p]?=some (.tuple [.bytes q.1,.bytes q.2])
theorem RowsAt.ko {H H':Hp} {r:Nat} {rows:List (List UInt8 × List UInt8)} (h:RowsAt H r rows) (k:Ko H H'):RowsAt H' r rows:=by
 obtain ⟨ps,a,b,c⟩:=h
 exact ⟨ps,k.2 _ _ a rfl,b,λi p q hp hq=>k.2 _ _ (c i p q hp hq) rfl⟩
section
variable {H:Hp} {T:Nat→Nat} {b:Bo} {n:Nat}
noncomputable def rowK (b:Bo) (m:Nat) (u:List UInt8):Option (List UInt8 × List UInt8):=rowE u ((ents u b.B b.R).find? λe=>decide (e.1 ≤ b.B + m))
noncomputable def rowsBody:Ss:=.cons (.unpack [4,5,6] (.call 61 (.cons (.var 0) (.cons (.var 3) (.cons (.idx (.key (.var 0) 78) (.var 1)) .nil))))) (.cons (.ite (.cmp .eq (.var 5) (.int 1)) (.cons (.expr (.append (.var 2) (.tuple (.cons (.var 3) (.cons (.var 6) .nil))))) .nil) .nil) .nil)
theorem view_rows (k:Bk H T b) {j m:Nat} (hj:j < b.S.length) (hs:b.S[j]?=some ((b.B + m:Nat):Int)) (hm:m ≤ b.R.length) {rr:Nat} (hr:H[rr]?=some (.list [])) (tr:T rr=0) :
  Ex5 λH' v3 v4 v5 v6=>And3 (EX (run thePrg (n + 2)) (.for 3 (.sortedKeys (.call 59 .nil)) rowsBody) [some (.ref b.rb),some (.int (j:Nat)),some (.ref rr),none,none,none,none,none,none] H (.nx [some (.ref b.rb),some (.int (j:Nat)),some (.ref rr),v3,v4,v5,v6,none,none] H')) (Md [18,19] [0] T H H') (RowsAt H' rr (KS.filterMap (rowK b m))):=by
 have e0:EV (run thePrg (n + 2)) (.sortedKeys (.call 59 .nil)) [some (.ref b.rb),some (.int (j:Nat)),some (.ref rr),none,none,none,none,none,none] H (.ref (H ++ [O.frame] ++ [O.list theKeys]).length) (H ++ [.frame] ++ [.list theKeys] ++ [.list keysSorted]) :=
  ev_sorted (ev_call evs_nil l_keys) (by exact get_end)
 have hk0:(H ++ [O.frame] ++ [O.list theKeys] ++ [O.list keysSorted])[(H ++ [O.frame] ++ [O.list theKeys]).length]?=some (.list keysSorted):=by exact get_end
 have p0:H <+: H ++ [O.frame] ++ [O.list theKeys] ++ [O.list keysSorted]:=pre1.trans (pre1.trans pre1)
 have nel:(H ++ [O.frame] ++ [O.list theKeys]).length ≠ rr:=λq=>by have:=lt_of_get hr;simp at q;lia
 generalize (H ++ [O.frame] ++ [O.list theKeys]).length=rk at e0 hk0 nel
 generalize H ++ [O.frame] ++ [O.list theKeys] ++ [O.list keysSorted]=H0 at e0 hk0 p0
 obtain ⟨r,e,H',v3,v4,v5,v6,rfl,md,ro⟩:=ex_forL (call:=run thePrg (n + 2)) (x:=3) (A:=.sortedKeys (.call 59 .nil)) (body:=rowsBody) (s:=[some (.ref b.rb),some (.int (j:Nat)),some (.ref rr),none,none,none,none,none,none]) (H:=H) (l:=keysSorted)
  (λr=>Ex5 λH' v3 v4 v5 v6=>And3 (r = .nx [some (.ref b.rb),some (.int (j:Nat)),some (.ref rr),v3,v4,v5,v6,none,none] H') (Md [18,19] [0] T H H') (RowsAt H' rr (KS.filterMap (rowK b m))))
  (λt e h=>Ex4 λv3 v4 v5 v6=>And4 (e = [some (.ref b.rb),some (.int (j:Nat)),some (.ref rr),v3,v4,v5,v6,none,none]) (Md [18,19] [0] T H h) (h[rk]?=some (.list keysSorted)) (RowsAt h rr ((KS.take t).filterMap (rowK b m))))
  e0 (by decide) (λt e h w_=>by obtain ⟨_,_,_,_,_,_,q,_⟩:=w_;exact q) ⟨none,none,none,none,rfl,Md.pre p0,hk0,[],get_pre p0 hr,rfl,λi p q hp _=>nomatch hp⟩ (by
   rintro t v e h hv ⟨v3,v4,v5,v6,rfl,md,hk,ps,hps,hlen,hrow⟩
   have hu:∃ u,KS[t]?=some u∧v = .bytes u:=by
    have ht:=(List.getElem?_eq_some_iff.mp hv).1
    rcases (by have:t < 3:=ht;lia:t=0∨t=1∨t=2) with rfl | rfl | rfl <;> (cases hv;exact ⟨_,rfl,rfl⟩)
   obtain ⟨u,hu,rfl⟩:=hu
   have kh:=k.md0 md
   obtain ⟨r1,H1,e1,p1,o1⟩:=l_at (n:=n + 1) kh u hm
   rw [at_all (B:=b.B)] at o1
   have k1:=kh.pre p1
   have sq:getIdx (.ref b.rs) (.int (j:Nat)) h=some (.int (b.B + m:Nat)):=idxL (i:=j) kh.l.os (by simpa using kh.capS) rfl (by rw [List.getElem?_map,hs];rfl)
   have nx:(KS.take (t + 1)).filterMap (rowK b m)=(KS.take t).filterMap (rowK b m) ++ (rowK b m u).toList:=by
    rw [List.take_succ,hu,List.filterMap_append]
    refine congrArg (λz=>(KS.take t).filterMap (rowK b m) ++ z) ?_
    show [u].filterMap _=_
    rw [List.filterMap_cons]
    cases rowK b m u <;> rfl
   have up:∀ {x y z:V},gt ((ents u b.B b.R).find? λe=>decide (e.1 ≤ b.B + m)) = [x,y,z]→EX (run thePrg (n + 2)) (.unpack [4,5,6] (.call 61 (.cons (.var 0) (.cons (.var 3) (.cons (.idx (.key (.var 0) 78) (.var 1)) .nil))))) (put [some (.ref b.rb),some (.int (j:Nat)),some (.ref rr),v3,v4,v5,v6,none,none] 3 (.bytes u)) h
     (.nx [some (.ref b.rb),some (.int (j:Nat)),some (.ref rr),some (.bytes u),some x,some y,some z,none,none] H1):=fun {x y z} hg =>
    ex_unpack (l:=[x,y,z]) (ev_call (evs_cons (ev_var rfl) (evs_cons (ev_var rfl) (evs_cons (ev_idx (ev_key (ev_var rfl) (key_of kh.l.ob rfl)) (ev_var rfl) sq) evs_nil))) e1) (by unfold tupOf;dsimp only;rw [o1];exact congrArg some hg) rfl
   have same:∀ {H2:Hp},h <+: H2→RowsAt H2 rr ((KS.take t).filterMap (rowK b m)):=λp=>⟨ps,get_pre p hps,hlen,λi p' q a b'=>get_pre p (hrow i p' q a b')⟩
   have m1:Md [18,19] [0] T H H1:=md.trans' (Md.pre p1)
   have hrk:rowK b m u=rowE u ((ents u b.B b.R).find? λe=>decide (e.1 ≤ b.B + m)):=rfl
   cases ho:(ents u b.B b.R).find? λe=>decide (e.1 ≤ b.B + m) with
   | none =>
    rw [ho] at hrk
    rw [hrk] at nx
    exact ⟨_,exs_nx (up (by rw [ho];rfl)) (exs_nx (ex_ite_f (tv_b (ev_cmp (ev_var rfl) ev_int rfl)) exs_nil) exs_nil),_,_,_,_,rfl,m1,get_pre p1 hk,by rw [nx];simp only [rowE,Option.toList,List.append_nil];exact same p1⟩
   | some e =>
    rw [ho] at hrk
    rw [hrk] at nx
    by_cases c:e.2.1=1
    ·have e2:rowE u (some e)=some (u,e.2.2):=if_pos c
     rw [e2] at nx
     have hr1:=get_pre p1 hps
     have lp:((ps.map V.ref).length) < capL:=by
      rw [List.length_map,hlen]
      have:=List.length_filterMap_le (rowK b m) (KS.take t)
      have:(KS.take t).length ≤ 3:=by rw [List.length_take];exact Nat.min_le_right _ _
      unfold capL;lia
     have s2:EX (run thePrg (n + 2)) (.expr (.append (.var 2) (.tuple (.cons (.var 3) (.cons (.var 6) .nil))))) [some (.ref b.rb),some (.int (j:Nat)),some (.ref rr),some (.bytes u),some (.bool true),some (.int e.2.1),some (.bytes e.2.2),none,none] H1
       (.nx [some (.ref b.rb),some (.int (j:Nat)),some (.ref rr),some (.bytes u),some (.bool true),some (.int e.2.1),some (.bytes e.2.2),none,none] ((H1 ++ [O.tuple [.bytes u,.bytes e.2.2]]).set rr (.list (ps.map V.ref ++ [.ref H1.length])))) :=
      ex_expr (ev_append (ev_var rfl) (isL_of hr1) (ev_tuple (evs_cons (ev_var rfl) (evs_cons (ev_var rfl) evs_nil))) (get_app hr1) lp) rfl
     refine ⟨_,exs_nx (up (by rw [ho];rfl)) (exs_nx (ex_ite_t (tv_b (ev_cmp (ev_var rfl) ev_int (by show some (((e.2.1:Nat):Int) == 1)=some true;rw [c];rfl))) (exs_nx s2 exs_nil)) exs_nil),_,_,_,_,rfl,m1.trans' ((Md.pre pre1).trans' (Md.set (get_app hr1) (by show (!([0]:List Nat).contains (T rr))=false;rw [tr];rfl))),get_set_ne (get_app (get_pre p1 hk)) nel,ps ++ [H1.length],?_,?_,λi p q hp hq=>?_⟩
     ·rw [get_set_eq (get_app hr1),List.map_append];rfl
     ·rw [nx,List.length_append,List.length_append,← hlen];rfl
     ·rw [nx] at hq
      have np:∀ x,(H1 ++ [O.tuple [.bytes u,.bytes e.2.2]])[x]?=some (O.tuple [.bytes q.1,.bytes q.2])→((H1 ++ [O.tuple [.bytes u,.bytes e.2.2]]).set rr (.list (ps.map V.ref ++ [.ref H1.length])))[x]?=some (O.tuple [.bytes q.1,.bytes q.2]):=λx hx=>get_set_ne hx λz=>by rw [z,get_app hr1] at hx;cases hx
      rcases Nat.lt_or_ge i ps.length with z | z
      ·rw [List.getElem?_append_left z] at hp
       rw [List.getElem?_append_left (by lia)] at hq
       exact np _ (get_app (get_pre p1 (hrow i p q hp hq)))
      ·have hi:i=ps.length:=by
        have:=(List.getElem?_eq_some_iff.mp hp).1
        rw [List.length_append,List.length_singleton] at this;lia
       subst hi
       rw [hlen] at hq
       simp at hp hq
       subst hp hq
       exact np _ (by simp)
    ·have e2:rowE u (some e)=none:=if_neg c
     rw [e2] at nx
     exact ⟨_,exs_nx (up (by rw [ho];rfl)) (exs_nx (ex_ite_f (tv_b (ev_cmp (ev_var rfl) ev_int (by show some (((e.2.1:Nat):Int) == 1)=some false;exact congrArg some (beq_eq_false_iff_ne.mpr (by lia))))) exs_nil) exs_nil),_,_,_,_,rfl,m1,get_pre p1 hk,by rw [nx];simp only [Option.toList,List.append_nil];exact same p1⟩) (by
   rintro e h ⟨v3,v4,v5,v6,rfl,md,_,ro⟩
   exact ⟨h,v3,v4,v5,v6,rfl,md,ro⟩)
 exact ⟨H',v3,v4,v5,v6,e,md,ro⟩
end
noncomputable def viewTest:E:=.or (.not (.meth (.var 8) 68 .nil)) (.or (.cmp .ne (.meth (.var 8) 36 .nil) (.var 3)) (.cmp .ne (.meth (.var 8) 37 .nil) (.var 6)))
noncomputable def viewBody (m:Nat):Ss:=.cons (.ite viewTest (.cons (.ret (.bool false)) .nil) .nil) (.cons (.expr (.meth (.var 8) m .nil)) .nil)
section
variable {H:Hp} {T:Nat→Nat} {b:Bo} {n rk ri rj sq0:Nat} {hd:Tw} {tw A Z M:List Tw} {x:Tw} {ht ad ro hp:Nat} {p:V} {g:Int} {k v:List UInt8}
theorem ne_same {u w:List UInt8} (h:u=w) {H:Hp}:cop .ne (.bytes u) (.bytes w) H=some false:=by
 subst h
 show some (!(u == u))=_
 simp
theorem view_test {e:En} {G:Int} {kk vv:List UInt8} (h:UA H rj ri rk sq0 p G true k v) (e8:look e 8=some (.ref rj)) (e3:look e 3=some (.bytes kk)) (e6:look e 6=some (.bytes vv))
  (hk:∀ H1,H <+: H1→Pv (run thePrg (n + 3) 56 [.ref rj] H1) (.bytes kk) H1) (hv:∀ H1,H <+: H1→Pv (run thePrg (n + 3) 57 [.ref rj] H1) (.bytes vv) H1):∃ H',TV (run thePrg (n + 3)) viewTest e H false H'∧H <+: H':=by
 have v1:=u_valid (n:=n + 2) h
 have h1:=h.pre (pre1 (G:=[O.frame]))
 obtain ⟨H2,e2,p2⟩:=hk _ pre1
 have h2:=h1.pre p2
 obtain ⟨H3,e4,p3⟩:=hv _ (pre1.trans p2)
 exact ⟨H3,tv_b (ev_or_f (ev_not (ev_meth (ev_var e8) (meth_at h.u rfl rfl) evs_nil v1) rfl rfl) rfl (ev_or_f (ev_cmp (ev_meth (ev_var e8) (meth_at h1.u rfl rfl) evs_nil e2) (ev_var e3) (ne_same rfl)) rfl (ev_cmp (ev_meth (ev_var e8) (meth_at h2.u rfl rfl) evs_nil e4) (ev_var e6) (ne_same rfl)))),pre1.trans (p2.trans p3)⟩
theorem drop_at {α:Type} {l:List α} {t:Nat} {q:α} (h:l[t]?=some q):l.drop t=q :: l.drop (t + 1):=by
 obtain ⟨ht,e⟩:=List.getElem?_eq_some_iff.mp h
 rw [← e];exact List.drop_eq_getElem_cons ht
theorem view_fwd {rr:Nat} {rows:List (List UInt8 × List UInt8)} {s0 s1 s4 s5 s7 v3 v6:Option V} (s:SkAt H rk hd tw ht ad ro hp) (h:UA H rj ri rk sq0 (nxt 0 (ff sq0 none tw)) 0 (!(ff sq0 none tw).isEmpty) [] []) (hr:RowsAt H rr rows) (hl:rows.length < 1000) (e:ffA sq0 none tw=rows) :
  Ex4 λH' w3 w6 q=>And3 (EX (run thePrg (n + 6)) (.forT [3,6] (.var 2) (viewBody 71)) [s0,s1,some (.ref rr),v3,s4,s5,v6,s7,some (.ref rj)] H (.nx [s0,s1,some (.ref rr),w3,s4,s5,w6,s7,some (.ref rj)] H')) (Ko H H') (UA H' rj ri rk sq0 q 0 false [] []):=by
 obtain ⟨ps,hps,hlen,hrow⟩:=hr
 obtain ⟨r,e1,H',w3,w6,q,rfl,ko,ua⟩:=ex_forT (call:=run thePrg (n + 6)) (xs:=[3,6]) (A:=.var 2) (body:=viewBody 71) (s:=[s0,s1,some (.ref rr),v3,s4,s5,v6,s7,some (.ref rj)]) (H:=H) (l:=ps.map V.ref)
  (λr=>Ex4 λH' w3 w6 q=>And3 (r = .nx [s0,s1,some (.ref rr),w3,s4,s5,w6,s7,some (.ref rj)] H') (Ko H H') (UA H' rj ri rk sq0 q 0 false [] []))
  (λt e h=>Ex5 λw3 w6 A L sk=>And5 (e = [s0,s1,some (.ref rr),w3,s4,s5,w6,s7,some (.ref rj)]) (tw=A ++ L) (Ko H h) (UA h rj ri rk sq0 (nxt 0 (ff sq0 sk L)) 0 (!(ff sq0 sk L).isEmpty) [] []) (ffA sq0 sk L=rows.drop t))
  (ev_var rfl) (by rw [List.length_map,hlen];unfold capL;exact Nat.lt_of_lt_of_le ‹_› (by decide)) (λt e h w_=>by obtain ⟨_,_,_,_,_,_,_,ko,_,_⟩:=w_;exact ko.2 _ _ hps rfl) ⟨v3,v6,[],tw,none,rfl,rfl,Ko.pre (List.prefix_refl _),h,e⟩ (by
   rintro t v e h hv ⟨w3,w6,A,L,sk,rfl,eA,ko,ua,er⟩
   rw [List.getElem?_map] at hv
   obtain ⟨pp,hp,rfl⟩:=Option.map_eq_some_iff.mp hv
   have ht:t < rows.length:=by have:=(List.getElem?_eq_some_iff.mp hp).1;lia
   have hq:rows[t]?=some rows[t]:=List.getElem?_eq_getElem ht
   generalize rows[t]=q at hq
   have ot:=ko.2 _ _ (hrow t pp q hp hq) rfl
   rw [drop_at hq] at er
   rcases ff_rows (sq0:=sq0) (L:=L) (sk:=sk) with ⟨_,z⟩ | ⟨p,x,L',eL,f1,f2⟩
   ·rw [z] at er;cases er
   ·rw [f2] at er
    obtain ⟨er1,er2⟩:=List.cons.inj er
    subst er1
    have s':=s.ko ko
    rw [eA,eL,← List.append_assoc] at s'
    have hx:x ∈ (A ++ p) ++ x :: L':=by exact List.mem_append_right _ (.head _)
    rw [f1,nxt0_cons s' hx] at ua
    have ua:UA h rj ri rk sq0 (.ref x.a) 0 true [] []:=ua
    obtain ⟨H1,e1,p1⟩:=view_test (n:=n + 3) (e:=[s0,s1,some (.ref rr),some (.bytes x.u),s4,s5,some (.bytes x.val),s7,some (.ref rj)]) ua rfl rfl rfl (λG pG=>u_key0 (n:=n + 3) (s'.pre pG) hx (ua.pre pG)) (λG pG=>u_value0 (n:=n + 3) (s'.pre pG) hx (ua.pre pG))
    obtain ⟨H2,e2,k2,u2⟩:=u_step (n:=n) (s'.pre p1) (ua.pre p1)
    exact ⟨[.bytes x.u,.bytes x.val],[s0,s1,some (.ref rr),some (.bytes x.u),s4,s5,some (.bytes x.val),s7,some (.ref rj)],_,by unfold tupOf;dsimp only;rw [ot],rfl,exs_nx (ex_ite_f e1 exs_nil) (exs_nx (ex_expr (ev_meth (ev_var rfl) (meth_at (ua.pre p1).u rfl rfl) evs_nil e2) rfl) exs_nil),
     _,_,(A ++ p) ++ [x],L',some x.u,rfl,by rw [eA,eL];simp,ko.trans ((Ko.pre p1).trans k2),u2,er2⟩) (by
   rintro e h ⟨w3,w6,A,L,sk,rfl,eA,ko,ua,er⟩
   rw [List.length_map,hlen,List.drop_length] at er
   rcases ff_rows (sq0:=sq0) (L:=L) (sk:=sk) with ⟨z,_⟩ | ⟨p,x,L',eL,f1,f2⟩
   ·rw [z] at ua
    exact ⟨h,w3,w6,_,rfl,ko,ua⟩
   ·rw [f2] at er;cases er)
 exact ⟨H',w3,w6,q,e1,ko,ua⟩
theorem view_bwd {rr:Nat} {rows:List (List UInt8 × List UInt8)} {s0 s1 s4 s5 s7 v3 v6:Option V} (s:SkAt H rk hd tw ht ad ro hp) (sd:Sd tw) (h:UA H rj ri rk sq0 (hdV (fb sq0 none tw.reverse).2) 1 (fb sq0 none tw.reverse).1.isSome k v) (hkv:∀ q,(fb sq0 none tw.reverse).1=some q→q=(k,v)) (hr:RowsAt H rr rows) (hl:rows.length < 1000) (e:fbA sq0 none tw.reverse=rows.reverse) :
  Ex6 λH' w3 w6 q k' v'=>EX (run thePrg (n + 8)) (.forT [3,6] (.rev (.var 2)) (viewBody 69)) [s0,s1,some (.ref rr),v3,s4,s5,v6,s7,some (.ref rj)] H (.nx [s0,s1,some (.ref rr),w3,s4,s5,w6,s7,some (.ref rj)] H')∧UA H' rj ri rk sq0 q 1 false k' v':=by
 obtain ⟨ps,hps,hlen,hrow⟩:=hr
 have hc:(ps.map V.ref).length < capL:=by rw [List.length_map,hlen];unfold capL;exact Nat.lt_of_lt_of_le ‹_› (by decide)
 have hrr:(H ++ [O.list (ps.map V.ref).reverse])[H.length]?=some (.list (ps.map V.ref).reverse):=by simp
 obtain ⟨r,e1,H',w3,w6,q,k',v',rfl,ua⟩:=ex_forT (call:=run thePrg (n + 8)) (xs:=[3,6]) (A:=.rev (.var 2)) (body:=viewBody 69) (s:=[s0,s1,some (.ref rr),v3,s4,s5,v6,s7,some (.ref rj)]) (H:=H) (l:=(ps.map V.ref).reverse)
  (λr=>Ex6 λH' w3 w6 q k' v'=>r = .nx [s0,s1,some (.ref rr),w3,s4,s5,w6,s7,some (.ref rj)] H'∧UA H' rj ri rk sq0 q 1 false k' v')
  (λt e h=>Ex6 λw3 w6 M Z k' v'=>And6 (e = [s0,s1,some (.ref rr),w3,s4,s5,w6,s7,some (.ref rj)]) (tw=M.reverse ++ Z) (Ko (H ++ [.list (ps.map V.ref).reverse]) h) (UA h rj ri rk sq0 (hdV (fb sq0 none M).2) 1 (fb sq0 none M).1.isSome k' v') ((∀ q,(fb sq0 none M).1=some q→q=(k',v'))) (fbA sq0 none M=rows.reverse.drop t))
  (ev_rev (ev_var rfl) hps hc) (by rw [List.length_reverse];exact hc) (λt e h w_=>by obtain ⟨_,_,_,_,_,_,_,_,ko,_,_,_⟩:=w_;exact ko.2 _ _ hrr rfl) ⟨v3,v6,tw.reverse,[],k,v,rfl,by simp,Ko.pre (List.prefix_refl _),h.pre pre1,hkv,e⟩ (by
   rintro t w e h hv ⟨w3,w6,M,Z,k',v',rfl,eM,ko,ua,hq,er⟩
   have ht:t < rows.reverse.length:=by have:=(List.getElem?_eq_some_iff.mp hv).1;rw [List.length_reverse,List.length_map] at this;rw [List.length_reverse];lia
   have hq2:rows.reverse[t]?=some rows.reverse[t]:=List.getElem?_eq_getElem ht
   generalize rows.reverse[t]=q at hq2
   rw [drop_at hq2] at er
   rw [← List.map_reverse,List.getElem?_map] at hv
   obtain ⟨pp,hp,rfl⟩:=Option.map_eq_some_iff.mp hv
   have htl:t < rows.length:=by rw [List.length_reverse] at ht;exact ht
   rw [List.getElem?_reverse (by (first | lia | omega))] at hp hq2
   rw [hlen] at hp
   have ot:=ko.2 _ _ (get_app (hrow _ pp q hp hq2)) rfl
   obtain ⟨pre,e1,e2⟩:=fb_rows (sq0:=sq0) (M:=M) (st:=none)
   rw [e2] at er
   cases hst:(fb sq0 none M).1 with
   | none =>
    rw [hst] at er
    cases er
   | some q' =>
    rw [hst] at er ua
    have hq':=hq q' hst
    obtain ⟨er1,er2⟩:=List.cons.inj (show q' :: (if (some q').isSome=true then fbA sq0 none (fb sq0 none M).2 else [])=q :: rows.reverse.drop (t + 1) from er)
    rw [if_pos (show (some q').isSome=true from rfl)] at er2
    subst er1
    subst hq'
    have ua:UA h rj ri rk sq0 (hdV (fb sq0 none M).2) 1 true k' v':=ua
    generalize (fb sq0 none M).2=M' at e1 er2 ua
    have s':=s.ko ((Ko.pre pre1).trans ko)
    have sd':=sd
    have eM2:tw=M'.reverse ++ (pre.reverse ++ Z):=by rw [eM,e1];simp
    rw [eM2] at s' sd'
    obtain ⟨H1,e3,p1⟩:=view_test (n:=n + 5) (e:=[s0,s1,some (.ref rr),some (.bytes k'),s4,s5,some (.bytes v'),s7,some (.ref rj)]) ua rfl rfl rfl (λG pG=>u_key1 (n:=n + 5) (ua.pre pG)) (λG pG=>u_value1 (n:=n + 5) (ua.pre pG))
    obtain ⟨H2,k2,v2,e4,ko2,u2,q2⟩:=u_back (n:=n) (s'.pre p1) sd' (ua.pre p1)
    exact ⟨[.bytes k',.bytes v'],[s0,s1,some (.ref rr),some (.bytes k'),s4,s5,some (.bytes v'),s7,some (.ref rj)],_,by unfold tupOf;dsimp only;rw [ot],rfl,exs_nx (ex_ite_f e3 exs_nil) (exs_nx (ex_expr (ev_meth (ev_var rfl) (meth_at (ua.pre p1).u rfl rfl) evs_nil e4) rfl) exs_nil),
     _,_,M',_,k2,v2,rfl,eM2,ko.trans ((Ko.pre p1).trans ko2),u2,q2,er2⟩) (by
   rintro e h ⟨w3,w6,M,Z,k',v',rfl,eM,ko,ua,hq,er⟩
   rw [List.length_reverse,List.length_map,hlen,← List.length_reverse,List.drop_length] at er
   obtain ⟨pre,e1,e2⟩:=fb_rows (sq0:=sq0) (M:=M) (st:=none)
   rw [e2] at er
   cases hst:(fb sq0 none M).1 with
   | none =>
    rw [hst] at ua
    exact ⟨h,w3,w6,_,k',v',rfl,ua⟩
   | some q' =>
    rw [hst] at er
    cases er)
 exact ⟨H',w3,w6,q,k',v',e1,ua⟩
theorem l_view (kb:Bk H T b) {j:Nat} (hj:j < b.S.length):∃ H',run thePrg (n + 9) 69 [.ref b.rb,.int (j:Nat)] H = .val (.bool true) H':=by
 have hsj:b.S[j]?=some b.S[j]:=List.getElem?_eq_getElem hj
 have hb:=kb.n.sb _ (List.getElem_mem hj)
 obtain ⟨m,hm,em⟩:∃ m:Nat,m ≤ b.R.length∧b.S[j]=((b.B + m:Nat):Int):=⟨(b.S[j] - (b.B:Nat)).toNat,by lia,by lia⟩
 rw [em] at hsj
 have p0:H <+: H ++ [O.frame] ++ [O.list []]:=pre1.trans pre1
 have s2:EX (run thePrg (n + 8)) (.assign 2 (.list .nil)) [some (.ref b.rb),some (.int (j:Nat)),none,none,none,none,none,none,none] (H ++ [.frame]) (.nx [some (.ref b.rb),some (.int (j:Nat)),some (.ref (H ++ [O.frame]).length),none,none,none,none,none,none] (H ++ [.frame] ++ [.list []])):=ex_assign (ev_list evs_nil)
 have hr0:(H ++ [O.frame] ++ [O.list []])[(H ++ [O.frame]).length]?=some (.list []):=by exact get_end
 have t0:T (H ++ [O.frame]).length=0:=kb.z _ (by simp)
 generalize (H ++ [O.frame]).length=rr at s2 hr0 t0
 generalize H ++ [O.frame] ++ [O.list []]=H0 at s2 hr0 p0
 have k0:=kb.pre p0
 obtain ⟨H1,v3,v4,v5,v6,e1,m1,ro1⟩:=view_rows (n:=n + 6) k0 hj hsj hm hr0 t0
 have k1:=k0.md0 m1
 obtain ⟨a,s,a1,a2,a3,a4⟩:=k1.mark hj
 rw [hsj] at a3
 cases a3
 obtain ⟨ri,H2,e2,p2,o2⟩:=t_walk (n:=n + 6) k1.t.tb
 have k2:=k1.pre p2
 have ini:=u_init (n:=n + 7) (H:=H2) (ri:=ri) (sq0:=b.B + m) (.ref b.ro)
 have s7:EX (run thePrg (n + 8)) (.assign 7 (.key (.var 0) 74)) [some (.ref b.rb),some (.int (j:Nat)),some (.ref rr),v3,v4,v5,v6,none,none] H1 (.nx [some (.ref b.rb),some (.int (j:Nat)),some (.ref rr),v3,v4,v5,v6,some (.ref b.rt),none] H1):=ex_assign (ev_key (ev_var rfl) (key_of k1.l.ob rfl))
 have s8:EX (run thePrg (n + 8)) (.assign 8 (.new 19 (.cons (.meth (.var 7) 85 .nil) (.cons (.attr (.idx (.key (.var 0) 3) (.var 1)) 1) (.cons (.attr (.var 7) 39) (.cons .none (.cons .none .nil))))))) [some (.ref b.rb),some (.int (j:Nat)),some (.ref rr),v3,v4,v5,v6,some (.ref b.rt),none] H1
   (.nx [some (.ref b.rb),some (.int (j:Nat)),some (.ref rr),v3,v4,v5,v6,some (.ref b.rt),some (.ref H2.length)] (H2 ++ uiO ri (b.B + m:Nat) 0 false [] [] :: [.frame])) :=
  ex_assign (ev_new (f:=45) rfl (evs_cons (ev_meth (ev_var rfl) (meth_at k1.t.tb rfl rfl) evs_nil e2) (evs_cons (ev_attr (ev_mark k2 rfl rfl a1) (attr_of (get_pre p2 a4) rfl rfl)) (evs_cons (ev_attr (ev_var rfl) (attr_of k2.t.tb rfl rfl)) (evs_cons ev_none (evs_cons ev_none evs_nil))))) ini)
 have p3:H2 <+: H2 ++ uiO ri (b.B + m:Nat) 0 false [] [] :: [.frame]:=pre1
 have u3:UA (H2 ++ uiO ri (b.B + m:Nat) 0 false [] [] :: [.frame]) H2.length ri b.rk (b.B + m) .none 0 false [] []:=⟨get_mid,get_pre p3 o2⟩
 have ro3:=(ro1.ko (Ko.pre p2)).ko (Ko.pre p3)
 have sk3:=k2.t.sk.pre p3
 have me:=k1.t.me
 obtain ⟨H4,e4,ko4,u4⟩:=u_seekFirst (n:=n + 2) sk3 u3
 have hrl:(KS.filterMap (rowK b m)).length < 1000:=by
  have:=List.length_filterMap_le (rowK b m) KS
  have:KS.length=3:=rfl
  exact Nat.lt_of_le_of_lt ‹_› (by decide)
 obtain ⟨H5,w3,w6,q5,e5,ko5,u5⟩:=view_fwd (n:=n + 2) (s0:=some (.ref b.rb)) (s1:=some (.int (j:Nat))) (s4:=v4) (s5:=v5) (s7:=some (.ref b.rt)) (v3:=v3) (v6:=v6) (sk3.ko ko4) u4 (ro3.ko ko4) hrl (me.fwd (b.B + m))
 have sk5:=(sk3.ko ko4).ko ko5
 have v5':=u_valid (n:=n + 7) u5
 have u5':=u5.pre (pre1 (G:=[O.frame]))
 obtain ⟨H6,k6,v6',e6,ko6,u6,q6⟩:=u_seekLast (n:=n) (sk5.pre pre1) me.sd u5'
 have ro6:=(((ro3.ko ko4).ko ko5).ko (Ko.pre (pre1 (G:=[O.frame])))).ko ko6
 obtain ⟨H7,x3,x6,q7,k7,v7,e7,u7⟩:=view_bwd (n:=n) (s0:=some (.ref b.rb)) (s1:=some (.int (j:Nat))) (s4:=v4) (s5:=v5) (s7:=some (.ref b.rt)) (v3:=w3) (v6:=w6) ((sk5.pre pre1).ko ko6) me.sd u6 q6 ro6 hrl (me.bwd (b.B + m))
 have v7':=u_valid (n:=n + 7) u7
 exact ⟨_,run_ret (D:=⟨2,9,b_law_view,[]⟩) rfl rfl rfl (exs_nx s2 (exs_nx e1 (exs_nx s7 (exs_nx s8 (exs_nx (ex_expr (ev_meth (ev_var rfl) (meth_at u3.u rfl rfl) evs_nil e4) rfl) (exs_nx e5 (exs_nx (ex_ite_f (tv_b (ev_meth (ev_var rfl) (meth_at u5.u rfl rfl) evs_nil v5')) exs_nil)
  (exs_nx (ex_expr (ev_meth (ev_var rfl) (meth_at u5'.u rfl rfl) evs_nil e6) rfl) (exs_nx e7 (exs_ret (ex_ret (ev_not (ev_meth (ev_var rfl) (meth_at u7.u rfl rfl) evs_nil v7') rfl rfl))))))))))))⟩
end
theorem rng_lt {a b:Int} {c:Int} (hc:0 < c) {t:Nat} (h:t < rangeCount a b c):a + c * t < b:=by
 unfold rangeCount at h
 split at h
 ·have h0:0 ≤ (b - a - 1) / c:=Int.ediv_nonneg (by lia) (by exact Int.le_of_lt ‹_›)
  have h1:(t:Int) ≤ (b - a - 1) / c:=by omega
  have h2:=Int.mul_le_mul_of_nonneg_left h1 (by exact Int.le_of_lt ‹_›:0 ≤ c)
  have h3:=Int.mul_ediv_self_le (x:=b - a - 1) (k:=c) (by lia)
  omega
 ·exact absurd ‹_› (Nat.not_lt_zero _)
section
variable {H:Hp} {T:Nat→Nat} {b:Bo} {n:Nat}
theorem draw_at {r:Nat} {ns:List Nat} (hr:H[r]?=some (.list (ci ns))) (hl:0 < ns.length∧ns.length ≤ 15) {i:Nat} (hi:i < 100):∃ y:Nat,run thePrg (n + 1) 58 [.ref r,.int i] H = .val (.int y) (H ++ [.frame]):=by
 have hc:(ci ns).length < capL:=by unfold ci capL;rw [List.length_map];lia
 have hlen:lenOf (.ref r) (H ++ [O.frame])=some ns.length:=by rw [lenL (get_app hr) hc];unfold ci;simp
 have hm:i % ns.length < ns.length:=Nat.mod_lt _ hl.1
 have hd:i / ns.length < 100:=Nat.lt_of_le_of_lt (Nat.div_le_self _ _) hi
 have g7:∀ d:Nat,d < 100→bop .mul (.int 7919) (.int (d:Nat)) (H ++ [O.frame])=some (.int ((7919 * d:Nat):Int),H ++ [O.frame]):=λd hd=>by
  unfold bop bopI isSmall big
  dsimp only
  rw [if_pos (by simp;omega)]
  rw [Int.natCast_mul];rfl
 have h7:=g7 _ hd
 have hs:bop .add (.int (ns[i % ns.length]:Nat)) (.int ((7919 * (i / ns.length):Nat):Int)) (H ++ [O.frame])=some (.int ((ns[i % ns.length] + 7919 * (i / ns.length):Nat):Int),H ++ [O.frame]):=by
  show some (V.int (_ + _),_)=_
  rw [← Int.natCast_add]
 exact ⟨ns[i % ns.length] + 7919 * (i / ns.length),run_ret (D:=⟨2,2,b_law_draw,[]⟩) rfl rfl rfl (exs_ret (ex_ret (ev_bin (ev_idx (ev_var rfl) (ev_bin (ev_var rfl) (ev_len (ev_var rfl) hlen) (bop_mod (a:=i) (b:=ns.length) hl.1)) (idxL (i:=i % ns.length) (v:=.int (ns[i % ns.length]:Nat)) (get_app hr) hc rfl (by unfold ci;rw [List.getElem?_map,List.getElem?_eq_getElem hm];rfl)))
  (ev_bin ev_int (ev_bin (ev_var rfl) (ev_len (ev_var rfl) hlen) (bop_fdiv (a:=i) (b:=ns.length) hl.1 (by omega))) h7) hs)))⟩
theorem l_close (k:Bk H T b) (hr:b.R.length + 1 ≤ 35) (hl:b.S.length + 20 ≤ 1000000) (y:Nat):∃ H',run thePrg (n + 10) 70 [.ref b.rb,.int y] H = .val (.bool true) H':=by
 have k0:=k.pre (pre1 (G:=[O.frame]))
 have s1:EX (run thePrg (n + 9)) (.assign 2 (.key (.var 0) 77)) [some (.ref b.rb),some (.int y),none,none,none,none,none] (H ++ [.frame]) (.nx [some (.ref b.rb),some (.int y),some (.ref b.rh),none,none,none,none] (H ++ [.frame])):=ex_assign (ev_key (ev_var rfl) (key_of k0.l.ob rfl))
 have t3:∀ c,decide (((b.h.length:Nat):Int) < 13)=c→TV (run thePrg (n + 9)) (.cmp .lt (.len (.var 2)) (.int 13)) [some (.ref b.rb),some (.int y),some (.ref b.rh),none,none,none,none] (H ++ [.frame]) c (H ++ [.frame]):=λc hc=>tv_b (ev_cmp (ev_len (ev_var rfl) k0.lenH) ev_int (congrArg some hc))
 have e3:∀ c,decide (((b.h.length:Nat):Int) < 13)=c→EV (run thePrg (n + 9)) (.cmp .lt (.len (.var 2)) (.int 13)) [some (.ref b.rb),some (.int y),some (.ref b.rh),none,none,none,none] (H ++ [.frame]) (.bool c) (H ++ [.frame]):=λc hc=>ev_cmp (ev_len (ev_var rfl) k0.lenH) ev_int (congrArg some hc)
 have st:Ex3 λH1 T1 b1=>And5 (EX (run thePrg (n + 9)) (.ite (.and (.cmp .lt (.len (.var 2)) (.int 13)) (.not (.call 63 (.cons (.var 0) (.cons (.var 1) (.cons (.int 14) .nil)))))) (.cons (.ret (.bool false)) .nil) .nil) [some (.ref b.rb),some (.int y),some (.ref b.rh),none,none,none,none] (H ++ [.frame]) (.nx [some (.ref b.rb),some (.int y),some (.ref b.rh),none,none,none,none] H1)) (Bk H1 T1 b1) (b1.rb=b.rb) (b1.rh=b.rh) (13 ≤ b1.h.length):=by
  by_cases c:b.h.length < 13
  ·obtain ⟨H1,T1,b1,e1,p1,r1,r2,r3⟩:=l_burst (n:=n) k0 hr (c:=14) (by exact Nat.succ_pos _) (by exact Nat.le_add_left _ _) (by lia) y
   exact ⟨H1,T1,b1,ex_ite_f (tv_b (ev_and_t (e3 true (decide_eq_true (by exact Int.ofNat_lt.mpr ‹_›))) rfl (ev_not (ev_call (evs_cons (ev_var rfl) (evs_cons (ev_var rfl) (evs_cons ev_int evs_nil))) e1) rfl rfl))) exs_nil,p1.k,p1.f.rb,p1.f.rh,by lia⟩
  ·exact ⟨_,T,b,ex_ite_f (tv_b (ev_and_f (e3 false (decide_eq_false λq=>c (Int.ofNat_lt.mp q))) rfl)) exs_nil,k0,rfl,rfl,by exact Nat.not_lt.mp ‹_›⟩
 obtain ⟨H1,T1,b1,e2,k1,q1,q2,h13⟩:=st
 rw [← q1,← q2] at e2
 rw [← q1,← q2] at s1
 rw [← q1]
 have hS:=k1.hS
 have sl:=k1.n.sl
 generalize hap:1 + b1.S.length / 30=ap
 have s3:EX (run thePrg (n + 9)) (.assign 3 (.bin .add (.int 1) (.bin .fdiv (.len (.key (.var 0) 3)) (.int 30)))) [some (.ref b1.rb),some (.int y),some (.ref b1.rh),none,none,none,none] H1 (.nx [some (.ref b1.rb),some (.int y),some (.ref b1.rh),some (.int (ap:Nat)),none,none,none] H1) :=
  ex_assign (ev_bin ev_int (ev_bin (ev_len (ev_key (ev_var rfl) (key_of k1.l.ob rfl)) k1.lenM) ev_int (bop_fdiv (a:=b1.S.length) (b:=30) (by exact Nat.succ_pos _) (by exact Nat.le_add_left _ _))) (by show some (V.int (1 + _),_)=_;rw [← hap,Int.natCast_add];rfl))
 have hy:y % ap < ap:=Nat.mod_lt _ (by lia)
 obtain ⟨r,e4,H2,v2,rfl,p2⟩:=ex_forR (call:=run thePrg (n + 9)) (x:=4) (A:=.bin .mod (.var 1) (.var 3)) (B:=.len (.key (.var 0) 3)) (C:=.var 3) (body:=.cons (.ite (.or (.not (.call 65 (.cons (.var 0) (.cons (.var 4) .nil)))) (.cmp .ne (.attr (.idx (.key (.var 0) 3) (.var 4)) 1) (.idx (.key (.var 0) 78) (.var 4)))) (.cons (.ret (.bool false)) .nil) .nil) .nil)
  (s:=[some (.ref b1.rb),some (.int y),some (.ref b1.rh),some (.int (ap:Nat)),none,none,none]) (H:=H1) (i:=(y % ap:Nat)) (j:=(b1.S.length:Nat)) (k:=(ap:Nat))
  (λr=>Ex2 λH2 v=>r = .nx [some (.ref b1.rb),some (.int y),some (.ref b1.rh),some (.int (ap:Nat)),v,none,none] H2∧H1 <+: H2)
  (λt e h=>∃ v,e = [some (.ref b1.rb),some (.int y),some (.ref b1.rh),some (.int (ap:Nat)),v,none,none]∧H1 <+: h)
  (ev_bin (ev_var rfl) (ev_var rfl) (bop_mod (a:=y) (b:=ap) (by lia))) (ev_len (ev_key (ev_var rfl) (key_of k1.l.ob rfl)) k1.lenM) (ev_var rfl) (by unfold rangeOk isSmall big;simp;lia) ⟨none,rfl,List.prefix_refl _⟩ (by
   rintro t e h ht ⟨v,rfl,p⟩
   have hlt:=rng_lt (by lia) ht
   obtain ⟨j,ej⟩:∃ j:Nat,((y % ap:Nat):Int) + (ap:Nat) * t=(j:Nat):=⟨y % ap + ap * t,by rw [Int.natCast_add,Int.natCast_mul]⟩
   rw [ej] at hlt ⊢
   have hj:j < b1.S.length:=by exact Int.ofNat_lt.mp ‹_›
   have kh:=k1.pre p
   obtain ⟨H4,e5,p4⟩:=l_placed (n:=n + 7) kh hj
   have k4:=kh.pre p4
   obtain ⟨a,s,a1,a2,a3,a4⟩:=k4.mark hj
   have es:b1.S[j]=s:=by rw [List.getElem?_eq_getElem hj] at a3;exact Option.some.inj a3
   exact ⟨_,exs_nx (ex_ite_f (tv_b (ev_or_f (ev_not (ev_call (evs_cons (ev_var rfl) (evs_cons (ev_var rfl) evs_nil)) e5) rfl rfl) rfl (ev_cmp (ev_attr (ev_mark k4 rfl rfl a1) (attr_of a4 rfl rfl)) (ev_idx (ev_key (ev_var rfl) (key_of k4.l.ob rfl)) (ev_var rfl) (k4.sAt hj)) (by show some (!(s == b1.S[j]))=some false;rw [es];simp)))) exs_nil) exs_nil,some (.int (j:Nat)),rfl,p.trans p4⟩) (by
   rintro e h ⟨v,rfl,p⟩
   exact ⟨h,v,rfl,p⟩)
 have hpos:0 < b1.h.length:=by lia
 obtain ⟨r,e5,H3,w4,w5,w6,rfl,p3⟩:=ex_forR (call:=run thePrg (n + 9)) (x:=5) (A:=.int 0) (B:=.int 12) (C:=.int 1) (body:=.cons (.assign 4 (.idx (.var 2) (.bin .mod (.bin .add (.var 1) (.bin .fdiv (.bin .mul (.var 5) (.len (.var 2))) (.int 12))) (.len (.var 2))))) (.cons (.assign 6 (.idx (.call 59 .nil) (.bin .mod (.bin .add (.var 1) (.var 5)) (.int 3)))) (.cons (.ite (.cmp .ne (.meth (.key (.var 0) 74) 86 (.cons (.var 6) (.cons (.attr (.idx (.key (.var 0) 3) (.var 4)) 1) .nil))) (.call 61 (.cons (.var 0) (.cons (.var 6) (.cons (.idx (.key (.var 0) 78) (.var 4)) .nil))))) (.cons (.ret (.bool false)) .nil) .nil) .nil)))
  (s:=[some (.ref b1.rb),some (.int y),some (.ref b1.rh),some (.int (ap:Nat)),v2,none,none]) (H:=H2) (i:=0) (j:=(12:Nat)) (k:=1)
  (λr=>Ex4 λH3 w4 w5 w6=>r = .nx [some (.ref b1.rb),some (.int y),some (.ref b1.rh),some (.int (ap:Nat)),w4,w5,w6] H3∧H1 <+: H3)
  (λt e h=>Ex3 λw4 w5 w6=>e = [some (.ref b1.rb),some (.int y),some (.ref b1.rh),some (.int (ap:Nat)),w4,w5,w6]∧H1 <+: h)
  ev_int ev_int ev_int (range_ok (by exact Nat.le_add_left _ _)) ⟨v2,none,none,rfl,p2⟩ (by
   rw [range_cnt]
   rintro t e h ht ⟨w4,w5,w6,rfl,p⟩
   have kh:=k1.pre p
   have hi:(y + t * b1.h.length / 12) % b1.h.length < b1.h.length:=Nat.mod_lt _ hpos
   have hml:bop .mul (.int (t:Nat)) (.int (b1.h.length:Nat)) h=some (.int ((t * b1.h.length:Nat):Int),h):=by
    unfold bop bopI isSmall big
    dsimp only
    rw [if_pos (by simp;omega)]
    rw [Int.natCast_mul]
   have a1:EX (run thePrg (n + 9)) (.assign 4 (.idx (.var 2) (.bin .mod (.bin .add (.var 1) (.bin .fdiv (.bin .mul (.var 5) (.len (.var 2))) (.int 12))) (.len (.var 2))))) [some (.ref b1.rb),some (.int y),some (.ref b1.rh),some (.int (ap:Nat)),w4,some (.int (t:Nat)),w6] h (.nx [some (.ref b1.rb),some (.int y),some (.ref b1.rh),some (.int (ap:Nat)),some (.int (b1.h[(y + t * b1.h.length / 12) % b1.h.length]:Nat)),some (.int (t:Nat)),w6] h) :=
    ex_assign (ev_idx (ev_var rfl) (ev_bin (ev_bin (v:=.int ((y + t * b1.h.length / 12:Nat):Int)) (ev_var rfl) (ev_bin (ev_bin (ev_var rfl) (ev_len (ev_var rfl) kh.lenH) hml) ev_int (bop_fdiv (a:=t * b1.h.length) (b:=12) (by omega) (by omega))) (by show some (V.int ((y:Int) + ((t * b1.h.length / 12:Nat):Int)),_)=_;rw [← Int.natCast_add])) (ev_len (ev_var rfl) kh.lenH) (bop_mod (a:=y + t * b1.h.length / 12) (b:=b1.h.length) hpos)) (kh.hAt hi rfl))
   have hj:=k1.m.hl _ (List.getElem_mem hi)
   generalize b1.h[(y + t * b1.h.length / 12) % b1.h.length]=j at a1 hj
   obtain ⟨h1,e6,p6⟩:=ev_keyN (n:=n + 8) (H:=h) (H':=h) (i:=.bin .mod (.bin .add (.var 1) (.var 5)) (.int 3)) (e:=[some (.ref b1.rb),some (.int y),some (.ref b1.rh),some (.int (ap:Nat)),some (.int (j:Nat)),some (.int (t:Nat)),w6]) (y:=y + t) λG=>ev_bin (ev_bin (v:=.int ((y + t:Nat):Int)) (ev_var rfl) (ev_var rfl) (by show some (V.int ((y:Int) + (t:Nat)),_)=_;rw [← Int.natCast_add])) ev_int (bop_mod (a:=y + t) (b:=3) (by omega))
   have hks:=(keyN_ks (y + t)).1
   generalize keyN ((y + t) % 3)=u at e6 hks
   have hsb:=k1.n.sb _ (List.getElem_mem hj)
   obtain ⟨m,hm,em⟩:∃ m:Nat,m ≤ b1.R.length∧b1.S[j]=((b1.B + m:Nat):Int):=⟨(b1.S[j] - (b1.B:Nat)).toNat,by omega,by omega⟩
   obtain ⟨h2,e7,p7⟩:=l_same (n:=n + 2) kh hks hm (e:=[some (.ref b1.rb),some (.int y),some (.ref b1.rh),some (.int (ap:Nat)),some (.int (j:Nat)),some (.int (t:Nat)),some (.bytes u)]) (A:=.var 6) (B1:=.attr (.idx (.key (.var 0) 3) (.var 4)) 1) (B2:=.idx (.key (.var 0) 78) (.var 4)) p6 rfl (λG _=>ev_var rfl) (λG pG=>by
     have kG:=(kh.pre p6).pre pG
     obtain ⟨a,s,x1,_,x3,x4⟩:=kG.mark hj
     rw [List.getElem?_eq_getElem hj,em] at x3
     cases x3
     exact ev_attr (ev_mark kG rfl rfl x1) (attr_of x4 rfl rfl)) (λG pG=>by
     have kG:=(kh.pre p6).pre pG
     have:=kG.sAt hj
     rw [em] at this
     exact ev_idx (ev_key (ev_var rfl) (key_of kG.l.ob rfl)) (ev_var rfl) this)
   have a2:EXs (run thePrg (n + 9)) (.cons (.assign 4 (.idx (.var 2) (.bin .mod (.bin .add (.var 1) (.bin .fdiv (.bin .mul (.var 5) (.len (.var 2))) (.int 12))) (.len (.var 2))))) (.cons (.assign 6 (.idx (.call 59 .nil) (.bin .mod (.bin .add (.var 1) (.var 5)) (.int 3)))) (.cons (.ite (.cmp .ne (.meth (.key (.var 0) 74) 86 (.cons (.var 6) (.cons (.attr (.idx (.key (.var 0) 3) (.var 4)) 1) .nil))) (.call 61 (.cons (.var 0) (.cons (.var 6) (.cons (.idx (.key (.var 0) 78) (.var 4)) .nil))))) (.cons (.ret (.bool false)) .nil) .nil) .nil)))
     (put [some (.ref b1.rb),some (.int y),some (.ref b1.rh),some (.int (ap:Nat)),w4,w5,w6] 5 (.int (0 + 1 * (t:Nat)))) h (.nx [some (.ref b1.rb),some (.int y),some (.ref b1.rh),some (.int (ap:Nat)),some (.int (j:Nat)),some (.int (t:Nat)),some (.bytes u)] h2):=by
    rw [show (0:Int) + 1 * (t:Nat)=(t:Nat) by omega]
    exact exs_nx a1 (exs_nx (ex_assign e6) (exs_nx (ex_ite_f e7 exs_nil) exs_nil))
   exact ⟨_,a2,_,_,_,rfl,p.trans (p6.trans p7)⟩) (by
   rintro e h ⟨w4,w5,w6,rfl,p⟩
   exact ⟨h,w4,w5,w6,rfl,p⟩)
 have k3:=k1.pre p3
 have hi:y / 3 % b1.h.length < b1.h.length:=Nat.mod_lt _ hpos
 have e9:∀ {e:En} {G:Hp},look e 1=some (.int y)→look e 2=some (.ref b1.rh)→Bk G T1 b1→EV (run thePrg (n + 9)) (.bin .mod (.bin .fdiv (.var 1) (.int 3)) (.len (.var 2))) e G (.int (y / 3 % b1.h.length:Nat)) G:=λh1 h2 kG=>ev_bin (ev_bin (ev_var h1) ev_int (bop_fdiv (a:=y) (b:=3) (by exact Nat.succ_pos _) (by exact Nat.le_add_left _ _))) (ev_len (ev_var h2) kG.lenH) (bop_mod (a:=y / 3) (b:=b1.h.length) hpos)
 generalize y / 3 % b1.h.length=q at hi e9
 have hx:b1.h.length - 1 - q < b1.h.length:=by lia
 have hj:=k1.m.hl _ (List.getElem_mem hx)
 obtain ⟨H4,e6⟩:=l_view (n:=n) k3 hj
 refine ⟨H4,run_ret (D:=⟨2,7,b_law_close,[]⟩) rfl rfl rfl (exs_nx s1 (exs_nx e2 (exs_nx s3 (exs_nx e4 (exs_nx e5 (exs_ret (ex_ret (ev_call (evs_cons (ev_var rfl) (evs_cons (ev_idx (ev_var rfl) (ev_bin ev_neg (e9 rfl rfl k3) rfl)
  (idxN (i:=b1.h.length - 1 - q) k3.l.oh (by simpa using k3.caph) (by lia) (by rw [List.length_map];lia) (by rw [List.getElem?_map,List.getElem?_eq_getElem hx];rfl))) evs_nil)) e6))))))))⟩
end
noncomputable def htsL:List V:=[.int 1,.int 2,.int 1,.int 3,.int 1,.int 2,.int 1,.int 4]
section
variable {H:Hp} {n:Nat}
theorem f_ordInit:run thePrg (n + 1) 19 [.ref H.length] (H ++ [.inst 13 []]) = .val .none (H ++ .inst 13 [(12,.ref (H.length + 2))] :: [.frame,.inst 12 []]):=by
 refine run_nx (e:=[some (.ref H.length)]) (D:=⟨1,1,b_InternalOrder_init,[]⟩) rfl rfl rfl ?_
 have e:(H ++ [O.inst 13 []] ++ [O.frame]).length=H.length + 2:=by simp
 refine exs_nx (ex_setattr (ev_new0 rfl) (ev_var rfl) ?_) exs_nil
 rw [e,List.append_assoc,List.append_assoc]
 exact set_at rfl (by decide)
theorem f_mlInit:run thePrg (n + 1) 1 [.ref H.length] (H ++ [.inst 10 []]) = .val .none (H ++ mlO (H.length + 2) 0 :: [.frame,.list []]):=by
 refine run_nx (e:=[some (.ref H.length)]) (D:=⟨1,1,b_MarkList_init,[]⟩) rfl rfl rfl ?_
 have e:(H ++ [O.inst 10 []] ++ [O.frame]).length=H.length + 2:=by simp
 refine exs_nx (ex_setattr (H3:=H ++ .inst 10 [(3,.ref (H.length + 2))] :: [.frame,.list []]) (ev_list evs_nil) (ev_var rfl) ?_) (exs_nx (ex_setattr ev_int (ev_var rfl) (set_at rfl (by exact Nat.le_add_left _ _))) exs_nil)
 rw [e,List.append_assoc,List.append_assoc]
 exact set_at rfl (by decide)
noncomputable def optF (H:Hp):List (Nat × V):=[(14,.int 1),(16,.int 32768),(17,.bool true),(18,.bool true),(19,.bool false),(20,.int 4194304),(21,.int 12),(22,.ref (H.length + 2)),(23,.int 4096),(24,.int 16),(25,.int 10),(26,.int 11),(27,.int 2097152),(28,.int 7),(29,.int 4),(30,.int 12),(31,.int 10485760),(32,.int 10),(33,.int 2),(34,.int 10),(35,.int 25)]
theorem f_optInit:run thePrg (n + 1) 21 [.ref H.length] (H ++ [.inst 14 []]) = .val .none (H ++ .inst 14 (optF H) :: [.frame,.tuple htsL]):=by
 refine run_nx (e:=[some (.ref H.length)]) (D:=⟨1,1,b_Options_init,[]⟩) rfl rfl rfl ?_
 rw [List.append_assoc]
 have tu:∀ {fs:List (Nat × V)},EV (run thePrg n) (.tuple (.cons (.int 1) (.cons (.int 2) (.cons (.int 1) (.cons (.int 3) (.cons (.int 1) (.cons (.int 2) (.cons (.int 1) (.cons (.int 4) .nil))))))))) [some (.ref H.length)] (H ++ .inst 14 fs :: [.frame]) (.ref (H.length + 2)) (H ++ .inst 14 fs :: [.frame,.tuple htsL]):=fun {fs}=>by
  have:=ev_tuple (call:=run thePrg n) (s:=[some (.ref H.length)]) (H:=H ++ .inst 14 fs :: [.frame]) (evs_cons (ev_int (j:=1)) (evs_cons (ev_int (j:=2)) (evs_cons (ev_int (j:=1)) (evs_cons (ev_int (j:=3)) (evs_cons (ev_int (j:=1)) (evs_cons (ev_int (j:=2)) (evs_cons (ev_int (j:=1)) (evs_cons (ev_int (j:=4)) evs_nil))))))))
  rw [List.append_assoc,show (H ++ .inst 14 fs :: [O.frame]).length=H.length + 2 by exact List.length_append] at this
  exact this
 have hl:∀ k,((optF H).take k).length < 100:=λk=>by rw [List.length_take];exact Nat.lt_of_le_of_lt (Nat.min_le_right _ _) (by simp [optF])
 have sa:∀ {m:Nat} {v:V} (k:Nat),theFld 14 m=true→setF m v ((optF H).take k)=(optF H).take (k + 1)→setAttr theFld (.ref H.length) m v (H ++ .inst 14 ((optF H).take k) :: [.frame])=some (H ++ .inst 14 ((optF H).take (k + 1)) :: [.frame]):=λk a b=>by rw [set_at a (hl k),b]
 have sb:∀ {m:Nat} {v:V} (k:Nat),theFld 14 m=true→setF m v ((optF H).take k)=(optF H).take (k + 1)→setAttr theFld (.ref H.length) m v (H ++ .inst 14 ((optF H).take k) :: [.frame,.tuple htsL])=some (H ++ .inst 14 ((optF H).take (k + 1)) :: [.frame,.tuple htsL]):=λk a b=>by rw [set_at a (hl k),b]
 exact (exs_nx (ex_setattr ev_gint (ev_var rfl) (sa 0 rfl rfl)) (exs_nx (ex_setattr ev_int (ev_var rfl) (sa 1 rfl rfl)) (exs_nx (ex_setattr ev_bool (ev_var rfl) (sa 2 rfl rfl)) (exs_nx (ex_setattr ev_bool (ev_var rfl) (sa 3 rfl rfl)) (exs_nx (ex_setattr ev_bool (ev_var rfl) (sa 4 rfl rfl)) (exs_nx (ex_setattr ev_int (ev_var rfl) (sa 5 rfl rfl)) (exs_nx (ex_setattr ev_int (ev_var rfl) (sa 6 rfl rfl)) (exs_nx (ex_setattr tu (ev_var rfl) (sb 7 rfl rfl)) (exs_nx (ex_setattr ev_int (ev_var rfl) (sb 8 rfl rfl)) (exs_nx (ex_setattr ev_int (ev_var rfl) (sb 9 rfl rfl)) (exs_nx (ex_setattr ev_int (ev_var rfl) (sb 10 rfl rfl)) (exs_nx (ex_setattr ev_int (ev_var rfl) (sb 11 rfl rfl)) (exs_nx (ex_setattr ev_int (ev_var rfl) (sb 12 rfl rfl)) (exs_nx (ex_setattr ev_int (ev_var rfl) (sb 13 rfl rfl)) (exs_nx (ex_setattr ev_int (ev_var rfl) (sb 14 rfl rfl)) (exs_nx (ex_setattr ev_int (ev_var rfl) (sb 15 rfl rfl)) (exs_nx (ex_setattr ev_int (ev_var rfl) (sb 16 rfl rfl)) (exs_nx (ex_setattr ev_int (ev_var rfl) (sb 17 rfl rfl)) (exs_nx (ex_setattr ev_int (ev_var rfl) (sb 18 rfl rfl)) (exs_nx (ex_setattr ev_int (ev_var rfl) (sb 19 rfl rfl)) (exs_nx (ex_setattr ev_int (ev_var rfl) (sb 20 rfl rfl)) exs_nil)))))))))))))))))))))
theorem f_chk {hp:Nat} (h:H[hp]?=some (.tuple htsL)):run thePrg (n + 1) 22 [.int 12,.ref hp] H = .val .none (H ++ [.frame]):=by
 have h0:=get_app (G:=[O.frame]) h
 obtain ⟨r,e,v,rfl⟩:=ex_forTu (call:=run thePrg n) (x:=2) (A:=.var 1) (body:=.cons (.ite (.or (.cmp .lt (.var 2) (.int 1)) (.cmp .gt (.var 2) (.var 0))) (.cons (.bad) .nil) .nil) .nil) (s:=[some (.int 12),some (.ref hp),none]) (H:=H ++ [.frame]) (l:=htsL)
  (λr=>∃ v,r = .nx [some (.int 12),some (.ref hp),v] (H ++ [.frame])) (λt e h=>∃ v,e = [some (.int 12),some (.ref hp),v]∧h=H ++ [.frame]) (ev_var rfl) (by decide) (λt e h ⟨_,_,z⟩=>by rw [z];exact h0) ⟨none,rfl,rfl⟩ (by
   rintro t v e h hv ⟨w,rfl,rfl⟩
   have:∃ i:Nat,And3 (v = .int i) (1 ≤ i) (i ≤ 12):=by
    have ht:=(List.getElem?_eq_some_iff.mp hv).1
    have ht:t < 8:=ht
    rcases (by lia:t=0∨t=1∨t=2∨t=3∨t=4∨t=5∨t=6∨t=7) with rfl | rfl | rfl | rfl | rfl | rfl | rfl | rfl <;> (cases hv;first | exact ⟨1,rfl,by decide,by decide⟩ | exact ⟨2,rfl,by decide,by decide⟩ | exact ⟨3,rfl,by decide,by decide⟩ | exact ⟨4,rfl,by decide,by decide⟩)
   obtain ⟨i,rfl,h1,h2⟩:=this
   exact ⟨_,exs_nx (ex_ite_f (tv_b (ev_or_f (ev_cmp (c:=false) (ev_var rfl) ev_int (congrArg some (decide_eq_false (by lia)))) rfl (ev_cmp (ev_var rfl) (ev_var rfl) (congrArg some (decide_eq_false (by lia)))))) exs_nil) exs_nil,some (.int i),rfl,rfl⟩) (by
   rintro e h ⟨v,rfl,rfl⟩
   exact ⟨v,rfl⟩)
 exact run_nx (D:=⟨2,3,b_check_heights,[]⟩) rfl rfl rfl (exs_nx (ex_ite_f (tv_b (ev_cmp (ev_len (ev_var rfl) (lenT h0 (by decide))) ev_int rfl)) exs_nil) (exs_nx e exs_nil))
theorem f_skipInit {ro hp:Nat} (ho:OrdAt H ro) (hh:H[hp]?=some (.tuple htsL)):Ex2 λG hd=>And3 (run thePrg (n + 2) 24 [.ref H.length,.ref ro,.int 12,.ref hp] (H ++ [.inst 16 []]) = .val .none (H ++ .inst 16 [(39,.ref ro),(22,.ref hp),(40,.ref hd.a),(41,.int (1:Nat)),(42,.int (0:Nat))] :: G)) (SkAt (H ++ .inst 16 [(39,.ref ro),(22,.ref hp),(40,.ref hd.a),(41,.int (1:Nat)),(42,.int (0:Nat))] :: G) H.length hd [] 1 0 ro hp) (H.length ≤ hd.lk):=by
 have hx:∃ x:Tw,And5 (x.a=H.length + 3) (x.lk=H.length + 6) (x.ht=12) (x.key = []) (x.val = []):=⟨⟨_,_,_,_,_,[],0,0⟩,rfl,rfl,rfl,rfl,rfl⟩
 obtain ⟨x,xa,xl,xh,xk,xv⟩:=hx
 have e0:H ++ [O.inst 16 []] ++ [.frame]=H ++ .inst 16 [] :: [.frame]:=by rw [List.append_assoc];rfl
 have c1:=f_chk (n:=n) (H:=H ++ .inst 16 [] :: [.frame]) (hp:=hp) (get_app hh)
 have c1':H ++ O.inst 16 [] :: [.frame] ++ [.frame]=H ++ .inst 16 [] :: [.frame,.frame]:=by rw [List.append_assoc];rfl
 rw [c1'] at c1
 have lL:∀ fs,(H ++ O.inst 16 fs :: [.frame,.frame]).length=H.length + 3:=λfs=>by exact List.length_append
 have c2:∀ fs,run thePrg (n + 1) 23 [.ref (H ++ O.inst 16 fs :: [.frame,.frame]).length,.bytes [],.bytes [],.int (12:Nat)] (H ++ O.inst 16 fs :: [.frame,.frame] ++ [.inst 15 []]) = .val .none (H ++ O.inst 16 fs :: [.frame,.frame,twO x,.frame,.list [.none],.list (List.replicate 12 .none)]):=λfs=>by
  have e:=c_towerInit (n:=n) (H:=H ++ O.inst 16 fs :: [.frame,.frame]) (k:=[]) (v:=[]) (hg:=12) (by decide) (x:=x) xk xv (by rw [xl,lL])
  rw [e,List.append_assoc];rfl
 have s40:∀ {fs:List (Nat × V)},fs.length < 100→EX (run thePrg (n + 1)) (.setattr (.var 0) 40 (.new 15 (.cons (.bytes []) (.cons (.bytes []) (.cons (.var 2) .nil))))) [some (.ref H.length),some (.ref ro),some (.int 12),some (.ref hp)] (H ++ O.inst 16 fs :: [.frame,.frame])
   (.nx [some (.ref H.length),some (.ref ro),some (.int 12),some (.ref hp)] (H ++ O.inst 16 (setF 40 (.ref x.a) fs) :: [.frame,.frame,twO x,.frame,.list [.none],.list (List.replicate 12 .none)])):=fun {fs} hf=>by
  have e:=ev_new (call:=run thePrg (n + 1)) (s:=[some (.ref H.length),some (.ref ro),some (.int 12),some (.ref hp)]) (f:=23) (c:=15) rfl (evs_cons ev_bytes (evs_cons ev_bytes (evs_cons (a:=.var 2) (v:=.int 12) (ev_var rfl) evs_nil))) (c2 fs)
  rw [lL,← xa] at e
  exact ex_setattr e (ev_var rfl) (set_at rfl hf)
 refine ⟨[.frame,.frame,twO x,.frame,.list [.none],.list (List.replicate 12 .none)],x,run_nx (e:=[some (.ref H.length),some (.ref ro),some (.int 12),some (.ref hp)]) (D:=⟨4,4,b_SkipList_init,[]⟩) rfl rfl rfl ?_,⟨get_mid,?_,get_app hh,⟨⟨?_,?_⟩,trivial⟩,xh,by decide,(λ_ h=>nomatch h),(λ_ h=>nomatch h),by decide,by simp⟩,by lia⟩
 ·rw [e0]
  exact exs_nx (ex_ite_f (tv_b (ev_cmp (ev_var rfl) ev_int rfl)) exs_nil) (exs_nx (ex_expr (ev_call (evs_cons (ev_var rfl) (evs_cons (ev_var rfl) evs_nil)) c1) rfl) (exs_nx (ex_setattr (ev_var rfl) (ev_var rfl) (set_at rfl (by decide))) (exs_nx (ex_setattr (ev_var rfl) (ev_var rfl) (set_at rfl (by simp [setF])))
   (exs_nx (s40 (by simp [setF])) (exs_nx (ex_setattr ev_int (ev_var rfl) (set_at rfl (by simp [setF]))) (exs_nx (ex_setattr ev_int (ev_var rfl) (set_at rfl (by simp [setF]))) exs_nil))))))
 ·exact ho.app
 ·rw [xa,List.getElem?_append_right (by exact Nat.le_add_right _ _),show H.length + 3 - H.length=3 by exact Nat.add_sub_cancel_left _ _];rfl
 ·rw [xl,xh,List.getElem?_append_right (by exact Nat.le_add_right _ _),show H.length + 6 - H.length=6 by exact Nat.add_sub_cancel_left _ _];rfl
theorem f_tabInit {op hp:Nat} {fs:List (Nat × V)} (oo:H[op]?=some (.inst 14 fs)) (f1:getF 21 fs=some (.int 12)) (f2:getF 22 fs=some (.ref hp)) (hh:H[hp]?=some (.tuple htsL)) :
  Ex4 λG ro rk hd=>And3 (run thePrg (n + 3) 31 [.ref H.length,.ref op] (H ++ [.inst 17 []]) = .val .none (H ++ tabO ro rk 0 :: G)) (SkAt (H ++ tabO ro rk 0 :: G) rk hd [] 1 0 ro hp) (H.length ≤ hd.lk):=by
 have l2:(H ++ O.inst 17 [] :: [.frame]).length=H.length + 2:=by exact List.length_append
 have c1:=f_ordInit (n:=n + 1) (H:=H ++ .inst 17 [] :: [.frame])
 rw [l2] at c1
 have s1:EX (run thePrg (n + 2)) (.setattr (.var 0) 39 (.new 13 .nil)) [some (.ref H.length),some (.ref op)] (H ++ .inst 17 [] :: [.frame]) (.nx [some (.ref H.length),some (.ref op)] (H ++ .inst 17 [(39,.ref (H.length + 2))] :: [.frame,.inst 13 [(12,.ref (H.length + 4))],.frame,.inst 12 []])):=by
  have e:=ev_new (call:=run thePrg (n + 2)) (s:=[some (.ref H.length),some (.ref op)]) (f:=19) (c:=13) (H:=H ++ .inst 17 [] :: [.frame]) rfl evs_nil (by rw [l2];exact c1)
  rw [l2,List.append_assoc] at e
  exact ex_setattr e (ev_var rfl) (set_at rfl (by decide))
 have ho:OrdAt (H ++ .inst 17 [(39,.ref (H.length + 2))] :: [.frame,.inst 13 [(12,.ref (H.length + 4))],.frame,.inst 12 []]) (H.length + 2):=⟨H.length + 4,by rw [List.getElem?_append_right (by exact Nat.le_add_right _ _),show H.length + 2 - H.length=2 by exact Nat.add_sub_cancel_left _ _];rfl,by rw [List.getElem?_append_right (by exact Nat.le_add_right _ _),show H.length + 4 - H.length=4 by exact Nat.add_sub_cancel_left _ _];rfl⟩
 obtain ⟨G,hd,c2,sk,lk⟩:=f_skipInit (n:=n) ho (get_app hh)
 have l5:(H ++ O.inst 17 [(39,V.ref (H.length + 2))] :: [.frame,.inst 13 [(12,.ref (H.length + 4))],.frame,.inst 12 []]).length=H.length + 5:=by exact List.length_append
 rw [l5] at c2 sk lk
 have oop:(H ++ .inst 17 [(39,.ref (H.length + 2))] :: [O.frame,.inst 13 [(12,.ref (H.length + 4))],.frame,.inst 12 []])[op]?=some (.inst 14 fs):=get_app oo
 have e2:=ev_new (call:=run thePrg (n + 2)) (s:=[some (.ref H.length),some (.ref op)]) (f:=24) (c:=16) rfl (evs_cons (ev_attr (a:=.var 0) (n:=39) (ev_var rfl) (attr_of get_mid rfl rfl)) (evs_cons (ev_attr (a:=.var 1) (n:=21) (ev_var rfl) (attr_of oop rfl f1)) (evs_cons (ev_attr (a:=.var 1) (n:=22) (ev_var rfl) (attr_of oop rfl f2)) evs_nil))) (by rw [l5];exact c2)
 rw [l5,List.append_assoc] at e2
 generalize hsk:O.inst 16 [(39,V.ref (H.length + 2)),(22,.ref hp),(40,.ref hd.a),(41,.int (1:Nat)),(42,.int (0:Nat))]=so at e2 sk
 have st:∀ G':Hp,setAttr theFld (.ref H.length) 44 (.ref (H.length + 5)) (H ++ .inst 17 [(39,.ref (H.length + 2))] :: G')=some (H ++ .inst 17 [(39,.ref (H.length + 2)),(44,.ref (H.length + 5))] :: G'):=λG'=>set_at rfl (by exact Nat.le_add_left _ _)
 have st2:∀ G':Hp,setAttr theFld (.ref H.length) 45 (.int 0) (H ++ .inst 17 [(39,.ref (H.length + 2)),(44,.ref (H.length + 5))] :: G')=some (H ++ tabO (H.length + 2) (H.length + 5) 0 :: G'):=λG'=>set_at rfl (by exact Nat.le_add_left _ _)
 refine ⟨[.frame,.inst 13 [(12,.ref (H.length + 4))],.frame,.inst 12 []] ++ so :: G,H.length + 2,H.length + 5,hd,run_nx (e:=[some (.ref H.length),some (.ref op)]) (D:=⟨2,2,b_MemTable_init,[]⟩) rfl rfl rfl ?_,?_,by lia⟩
 ·rw [List.append_assoc]
  exact exs_nx s1 (exs_nx (ex_setattr e2 (ev_var rfl) (st _)) (exs_nx (ex_setattr ev_int (ev_var rfl) (st2 _)) exs_nil))
 ·have kp:∀ (i:Nat) (o:O),(H ++ .inst 17 [(39,.ref (H.length + 2))] :: [.frame,.inst 13 [(12,.ref (H.length + 4))],.frame,.inst 12 []] ++ so :: G)[i]?=some o→i ≠ H.length→(H ++ tabO (H.length + 2) (H.length + 5) 0 :: ([.frame,.inst 13 [(12,.ref (H.length + 4))],.frame,.inst 12 []] ++ so :: G))[i]?=some o:=λi o q c=>by
   rw [List.append_assoc] at q
   rcases Nat.lt_or_ge i H.length with z | z
   ·rw [List.getElem?_append_left z] at q ⊢;exact q
   ·rw [List.getElem?_append_right z] at q ⊢
    rw [← Nat.succ_pred_eq_of_pos (by lia:0 < i - H.length)] at q ⊢
    exact q
  have at0:(H ++ .inst 17 [(39,.ref (H.length + 2))] :: [O.frame,.inst 13 [(12,.ref (H.length + 4))],.frame,.inst 12 []] ++ so :: G)[H.length]?=some (.inst 17 [(39,.ref (H.length + 2))]):=by rw [List.append_assoc];exact get_mid
  have kd:∀ (i:Nat) (o:O),(H ++ .inst 17 [(39,.ref (H.length + 2))] :: [.frame,.inst 13 [(12,.ref (H.length + 4))],.frame,.inst 12 []] ++ so :: G)[i]?=some o→(∀ fs,o ≠ .inst 17 fs)→(H ++ tabO (H.length + 2) (H.length + 5) 0 :: ([.frame,.inst 13 [(12,.ref (H.length + 4))],.frame,.inst 12 []] ++ so :: G))[i]?=some o:=λi o q c=>kp i o q λz=>by
   rw [z,at0] at q
   exact c _ (Option.some.inj q).symm
  obtain ⟨r2,o1,o2⟩:=sk.ord
  exact ⟨kd _ _ sk.obj (λ_ q=>nomatch q),⟨r2,kd _ _ o1 (λ_ q=>nomatch q),kd _ _ o2 (λ_ q=>nomatch q)⟩,kd _ _ sk.hts (λ_ q=>nomatch q),sk.sk.mono (λy hy o q=>kd _ _ q λfs z=>by
    rw [(sk.sk.lkAt hy).1,z] at q;cases q) (λy hy o q=>kd _ _ q λfs z=>by
    obtain ⟨_,l,w⟩:=sk.sk.lkAt hy
    rw [w,z] at q;cases q),sk.hh,sk.top,sk.hi,sk.key,sk.len,sk.nd⟩
end
theorem bop_mul {a b:Nat} {H:Hp} (ha:a < 1000) (hb:b < 1000):bop .mul (.int a) (.int b) H=some (.int ((a * b:Nat):Int),H):=by
 unfold bop bopI isSmall big
 dsimp only
 rw [if_pos (by simp;omega)]
 rw [Int.natCast_mul]
theorem bop_addN {a b:Nat} {H:Hp}:bop .add (.int a) (.int b) H=some (.int ((a + b:Nat):Int),H):=by
 show some (V.int (_ + _),_)=_
 rw [← Int.natCast_add]
noncomputable def bookE:E:=.dict [74,79,76,73,3,78,77] (.cons (.new 17 (.cons (.new 14 .nil) .nil)) (.cons (.new 10 .nil) (.cons (.var 4) (.cons (.list .nil) (.cons (.list .nil) (.cons (.list .nil) (.cons (.list .nil) .nil)))))))
section
variable {H:Hp} {n:Nat}
theorem f_book {B:Nat} (hB:B ≤ 72057594037927900) {e:En} (he:look e 4=some (.int B)):Ex3 λH' T b=>And6 (EV (run thePrg (n + 3)) bookE e H (.ref b.rb) H') (Bk H' T b) (b.R = []) (b.S = []) (H <+: H') (∀ i,i < H.length→T i=0):=by
 generalize h1:H ++ O.inst 14 (optF H) :: [.frame,.tuple htsL]=H1
 have p1:H <+: H1:=⟨_,h1⟩
 have e1:EV (run thePrg (n + 3)) (.new 14 .nil) e H (.ref H.length) H1:=ev_new (f:=21) rfl evs_nil (by rw [f_optInit (n:=n + 2),h1])
 have o1:H1[H.length]?=some (.inst 14 (optF H)):=by rw [← h1];exact get_mid
 have o2:H1[H.length + 2]?=some (.tuple htsL):=by rw [← h1,List.getElem?_append_right (by exact Nat.le_add_right _ _),show H.length + 2 - H.length=2 by exact Nat.add_sub_cancel_left _ _];rfl
 obtain ⟨G,ro,rk,hd,c2,sk,lk⟩:=f_tabInit (n:=n) o1 rfl rfl o2
 have tb:(H1 ++ tabO ro rk 0 :: G)[H1.length]?=some (tabO ro rk 0):=get_mid
 have e2:=ev_new (call:=run thePrg (n + 3)) (f:=31) (c:=17) (s:=e) rfl (evs_cons e1 evs_nil) c2
 generalize h2:H1 ++ tabO ro rk 0 :: G=H2 at e2 sk tb
 have p2:H1 <+: H2:=⟨_,h2⟩
 have l2:hd.lk < H2.length:=by
  obtain ⟨_,l,w⟩:=sk.sk.lkAt (List.mem_cons_self ..)
  exact lt_of_get w
 generalize h3:H2 ++ mlO (H2.length + 2) 0 :: [O.frame,.list []]=H3
 have p3:H2 <+: H3:=⟨_,h3⟩
 have l3:H3.length=H2.length + 3:=by rw [← h3];simp
 have e3:EV (run thePrg (n + 3)) (.new 10 .nil) e H2 (.ref H2.length) H3:=ev_new (f:=1) rfl evs_nil (by rw [f_mlInit (n:=n + 2),h3])
 have o3:H3[H2.length]?=some (mlO (H2.length + 2) 0):=by rw [← h3];exact get_mid
 have o4:H3[H2.length + 2]?=some (.list []):=by rw [← h3,List.getElem?_append_right (by exact Nat.le_add_right _ _),show H2.length + 2 - H2.length=2 by exact Nat.add_sub_cancel_left _ _];rfl
 have e4:∀ H:Hp,EV (run thePrg (n + 3)) (.list .nil) e H (.ref H.length) (H ++ [.list []]):=λH=>ev_list evs_nil
 let T:Nat→Nat:=λi=>if i=hd.lk then 3 else if i=H2.length + 2 then 5 else if i=H3.length then 7 else if i=H3.length + 1 then 8 else if i=H3.length + 2 then 9 else if i=H3.length + 3 then 10 else 0
 have t7:T H3.length=7:=by
  show (if H3.length=hd.lk then _ else _)=_
  rw [if_neg (by lia),if_neg (by lia),if_pos rfl]
 have t8:T (H3.length + 1)=8:=by
  show (if H3.length + 1=hd.lk then _ else _)=_
  rw [if_neg (by lia),if_neg (by lia),if_neg (by lia),if_pos rfl]
 have t9:T (H3.length + 2)=9:=by
  show (if H3.length + 2=hd.lk then _ else _)=_
  rw [if_neg (by lia),if_neg (by lia),if_neg (by lia),if_neg (by lia),if_pos rfl]
 have t10:T (H3.length + 3)=10:=by
  show (if H3.length + 3=hd.lk then _ else _)=_
  rw [if_neg (by lia),if_neg (by lia),if_neg (by lia),if_neg (by lia),if_neg (by lia),if_pos rfl]
 let b:Bo:=⟨H3.length + 4,H1.length,ro,rk,hd,H.length + 2,H2.length,H3.length,H3.length + 1,H3.length + 2,H3.length + 3,B,H2.length + 2,[],[],[],1,0,0,[],[],[]⟩
 have e5:=ev_dict (ks:=[74,79,76,73,3,78,77]) (evs_cons e2 (evs_cons e3 (evs_cons (ev_var he) (evs_cons (e4 _) (evs_cons (e4 _) (evs_cons (e4 _) (evs_cons (e4 _) evs_nil))))))) rfl
 have l4:((((H3 ++ [O.list []]) ++ [O.list []]) ++ [O.list []]) ++ [O.list []]).length=H3.length + 4:=by simp
 have l5:(((H3 ++ [O.list []]) ++ [O.list []]) ++ [O.list []]).length=H3.length + 3:=by simp
 have l6:((H3 ++ [O.list []]) ++ [O.list []]).length=H3.length + 2:=by simp
 have l7:(H3 ++ [O.list []]).length=H3.length + 1:=by exact List.length_append
 rw [l4,l5,l6,l7] at e5
 have eb:H3 ++ [O.list []] ++ [O.list []] ++ [O.list []] ++ [O.list []] ++ [bookO b]=H3 ++ [.list [],.list [],.list [],.list [],bookO b]:=by simp
 have e6:EV (run thePrg (n + 3)) bookE e H (.ref b.rb) (H3 ++ [.list [],.list [],.list [],.list [],bookO b]):=by rw [← eb];exact e5
 have q3:H3 <+: H3 ++ [.list [],.list [],.list [],.list [],bookO b]:=⟨_,rfl⟩
 have q2:=p3.trans q3
 have at4:∀ (i:Nat),(H3 ++ [O.list [],.list [],.list [],.list [],bookO b])[H3.length + i]?=([O.list [],.list [],.list [],.list [],bookO b]:List O)[i]?:=λi=>by
  rw [List.getElem?_append_right (by exact Nat.le_add_right _ _),show H3.length + i - H3.length=i by exact Nat.add_sub_cancel_left _ _]
 have l1:H.length ≤ H1.length:=p1.length_le
 obtain ⟨G2,hG2⟩:=q2
 refine ⟨_,T,b,e6,⟨⟨get_pre ⟨G2,hG2⟩ tb,?_,⟨(λ_ h=>nomatch h),List.Pairwise.nil,λ_ _=>rfl⟩,?_⟩,⟨get_pre q3 o3,get_pre q3 o4,rfl,(λ_ _ _ h=>nomatch h),List.nodup_nil,List.Pairwise.nil,(λ_ h=>nomatch h),?_⟩,⟨at4 4,at4 0,rfl,(λ_ _ _ h=>nomatch h),at4 1,at4 2,at4 3,?_⟩,⟨(λ_ h=>nomatch h),(λ_ h=>nomatch h),hB,Nat.zero_le _,Nat.zero_le _,Nat.le_refl _⟩,?_⟩,rfl,rfl,p1.trans (p2.trans (p3.trans q3)),?_⟩
 ·have:=sk.app (G:=G2)
  rw [hG2] at this
  exact this
 ·intro x hx
  rw [List.mem_singleton.mp hx]
  exact if_pos rfl
 ·show T (H2.length + 2)=5
  show (if _ then _ else _)=_
  rw [if_neg (by lia),if_pos rfl]
 ·exact ⟨t7,t8,t9,t10⟩
 ·intro i hi
  rw [List.length_append] at hi
  have hi:H3.length + 5 ≤ i:=hi
  show (if i=_ then _ else _)=_
  rw [if_neg (by lia),if_neg (by lia),if_neg (by lia),if_neg (by lia),if_neg (by lia),if_neg (by lia)]
 ·intro i hi
  have h12:=p2.length_le
  show (if i=_ then _ else _)=_
  rw [if_neg (by lia),if_neg (by lia),if_neg (by lia),if_neg (by lia),if_neg (by lia),if_neg (by lia)]
end
noncomputable def LE (s0 s1:Option V) (r x B rb:Nat) (v6 v7 v8 v9:Option V):En:=[s0,s1,some (.ref r),some (.int x),some (.int B),some (.ref rb),v6,v7,v8,v9]
structure LI (H:Hp) (T:Nat→Nat) (b:Bo) (r rb:Nat) (ns:List Nat):Prop where
 k:Bk H T b
 e:b.rb=rb
 o:H[r]?=some (.list (ci ns))
 t:T r=0
noncomputable def turn1:Ss:=.cons (.assign 7 (.call 58 (.cons (.var 2) (.cons (.var 6) .nil)))) (.cons (.assign 8 (.int 0)) (.cons (.ite (.and (.cmp .eq (.var 6) (.int 3)) (.cmp .eq (.bin .mod (.bin .fdiv (.var 3) (.int 160)) (.int 5)) (.int 4))) (.cons (.assign 8 (.int 220)) .nil) .nil) (.cons (.ite (.not (.call 63 (.cons (.var 5) (.cons (.var 7) (.cons (.bin .add (.bin .add (.int 8) (.bin .mod (.bin .fdiv (.var 7) (.int 162)) (.int 3))) (.var 8)) .nil))))) (.cons (.ret (.bool false)) .nil) .nil) .nil)))
noncomputable def turn2:Ss:=.cons (.assign 9 (.bin .mod (.bin .add (.var 3) (.bin .mul (.var 6) (.bin .add (.int 1) (.bin .mul (.int 2) (.bin .mod (.bin .fdiv (.var 3) (.int 8)) (.int 4)))))) (.int 8))) (.cons (.ite (.not (.call 68 (.cons (.var 5) (.cons (.var 9) (.cons (.call 58 (.cons (.var 2) (.cons (.bin .add (.int 6) (.var 6)) .nil))) .nil))))) (.cons (.ret (.bool false)) .nil) .nil) .nil)
section
variable {H:Hp} {T:Nat→Nat} {b:Bo} {n r rb x B:Nat} {ns:List Nat} {s0 s1 v6 v7 v8 v9:Option V}
theorem LI.post (h:LI H T b r rb ns) {H1 H':Hp} {T':Nat→Nat} {b':Bo} (q:H <+: H1) (p:Post H1 T b H' T' b'):LI H' T' b' r rb ns:=by
 obtain ⟨a,c⟩:=p.s.keep (get_pre q h.o) h.t rfl
 exact ⟨p.k,by rw [p.f.rb];exact h.e,a,c⟩
theorem l_turn1 (h:LI H T b r rb ns) (hl:0 < ns.length∧ns.length ≤ 15) (hr:b.R.length + 1 ≤ 35) (hs:b.S.length + 230 ≤ 1000000) {i:Nat} (hi:i < 100) :
  Ex5 λH' T' b' y m=>And5 (EXs (run thePrg (n + 9)) turn1 (LE s0 s1 r x B rb (some (.int i)) v7 v8 none) H (.nx (LE s0 s1 r x B rb (some (.int i)) (some (.int (y:Nat))) (some (.int (m:Nat))) none) H')) (LI H' T' b' r rb ns) (b'.R.length=b.R.length + 1) (b'.S.length ≤ b.S.length + 230) (0 < b'.S.length):=by
 obtain ⟨y,c1⟩:=draw_at (n:=n + 8) h.o hl hi
 have k0:=h.k.pre (pre1 (G:=[O.frame]))
 have e1:EX (run thePrg (n + 9)) (.assign 7 (.call 58 (.cons (.var 2) (.cons (.var 6) .nil)))) (LE s0 s1 r x B rb (some (.int i)) v7 v8 none) H (.nx (LE s0 s1 r x B rb (some (.int i)) (some (.int (y:Nat))) v8 none) (H ++ [.frame])) :=
  ex_assign (ev_call (evs_cons (ev_var rfl) (evs_cons (ev_var rfl) evs_nil)) c1)
 have e2:EX (run thePrg (n + 9)) (.assign 8 (.int 0)) (LE s0 s1 r x B rb (some (.int i)) (some (.int (y:Nat))) v8 none) (H ++ [.frame]) (.nx (LE s0 s1 r x B rb (some (.int i)) (some (.int (y:Nat))) (some (.int 0)) none) (H ++ [.frame])):=ex_assign ev_int
 have e3:∃ m:Nat,m ≤ 220∧EX (run thePrg (n + 9)) (.ite (.and (.cmp .eq (.var 6) (.int 3)) (.cmp .eq (.bin .mod (.bin .fdiv (.var 3) (.int 160)) (.int 5)) (.int 4))) (.cons (.assign 8 (.int 220)) .nil) .nil) (LE s0 s1 r x B rb (some (.int i)) (some (.int (y:Nat))) (some (.int 0)) none) (H ++ [.frame]) (.nx (LE s0 s1 r x B rb (some (.int i)) (some (.int (y:Nat))) (some (.int (m:Nat))) none) (H ++ [.frame])):=by
  have t1:∀ c,((i:Int) == 3)=c→EV (run thePrg (n + 9)) (.cmp .eq (.var 6) (.int 3)) (LE s0 s1 r x B rb (some (.int i)) (some (.int (y:Nat))) (some (.int 0)) none) (H ++ [.frame]) (.bool c) (H ++ [.frame]):=λc hc=>ev_cmp (ev_var rfl) ev_int (congrArg some hc)
  have t2:∀ c,(((x / 160 % 5:Nat):Int) == 4)=c→EV (run thePrg (n + 9)) (.cmp .eq (.bin .mod (.bin .fdiv (.var 3) (.int 160)) (.int 5)) (.int 4)) (LE s0 s1 r x B rb (some (.int i)) (some (.int (y:Nat))) (some (.int 0)) none) (H ++ [.frame]) (.bool c) (H ++ [.frame]):=λc hc =>
   ev_cmp (ev_bin (ev_bin (ev_var rfl) ev_int (bop_fdiv (a:=x) (b:=160) (by exact Nat.succ_pos _) (by exact Nat.le_add_left _ _))) ev_int (bop_mod (a:=x / 160) (b:=5) (by exact Nat.succ_pos _))) ev_int (congrArg some hc)
  cases d1:((i:Int) == 3) with
  | false=>exact ⟨0,by exact Nat.zero_le _,ex_ite_f (tv_b (ev_and_f (t1 _ d1) rfl)) exs_nil⟩
  | true =>
   cases d2:(((x / 160 % 5:Nat):Int) == 4) with
   | false=>exact ⟨0,by exact Nat.zero_le _,ex_ite_f (tv_b (ev_and_t (t1 _ d1) rfl (t2 _ d2))) exs_nil⟩
   | true=>exact ⟨220,by exact Nat.le_refl _,ex_ite_t (tv_b (ev_and_t (t1 _ d1) rfl (t2 _ d2))) (exs_nx (ex_assign ev_int) exs_nil)⟩
 obtain ⟨m,hm,e3⟩:=e3
 have h3:y / 162 % 3 < 3:=Nat.mod_lt _ (by exact Nat.succ_pos _)
 obtain ⟨H',T',b',c2,p,r1,r2,_⟩:=l_burst (n:=n) k0 hr (c:=8 + y / 162 % 3 + m) (by lia) (by lia) (by lia) y
 rw [h.e] at c2
 refine ⟨H',T',b',y,m,exs_nx e1 (exs_nx e2 (exs_nx e3 (exs_nx (ex_ite_f (tv_b (ev_not (ev_call (evs_cons (ev_var rfl) (evs_cons (ev_var rfl) (evs_cons (ev_bin (ev_bin ev_int (ev_bin (ev_bin (ev_var rfl) ev_int (bop_fdiv (a:=y) (b:=162) (by exact Nat.succ_pos _) (by exact Nat.le_add_left _ _))) ev_int (bop_mod (a:=y / 162) (b:=3) (by exact Nat.succ_pos _))) (bop_addN (a:=8))) (ev_var rfl) bop_addN) evs_nil))) c2) rfl rfl)) exs_nil) exs_nil))),h.post pre1 p,r1,by lia,by lia⟩
theorem l_turn2 (h:LI H T b r rb ns) (hl:0 < ns.length∧ns.length ≤ 15) (hr:b.R.length + 2 ≤ 35) (hs:b.S.length + 40 ≤ 1000000) {i:Nat} (hi:i < 8) :
  Ex4 λH' T' b' w=>And4 (EXs (run thePrg (n + 10)) turn2 (LE s0 s1 r x B rb (some (.int i)) v7 v8 v9) H (.nx (LE s0 s1 r x B rb (some (.int i)) v7 v8 (some (.int (w:Nat)))) H')) (LI H' T' b' r rb ns) (b'.R.length ≤ b.R.length + 2) (b'.S.length ≤ b.S.length + 40):=by
 obtain ⟨y,c1⟩:=draw_at (n:=n + 9) (i:=6 + i) h.o hl (by lia)
 have k0:=h.k.pre (pre1 (G:=[O.frame]))
 have h8:x / 8 % 4 < 4:=Nat.mod_lt _ (by exact Nat.succ_pos _)
 have e1:EX (run thePrg (n + 10)) (.assign 9 (.bin .mod (.bin .add (.var 3) (.bin .mul (.var 6) (.bin .add (.int 1) (.bin .mul (.int 2) (.bin .mod (.bin .fdiv (.var 3) (.int 8)) (.int 4)))))) (.int 8))) (LE s0 s1 r x B rb (some (.int i)) v7 v8 v9) H (.nx (LE s0 s1 r x B rb (some (.int i)) v7 v8 (some (.int ((x + i * (1 + 2 * (x / 8 % 4))) % 8:Nat)))) H) :=
  ex_assign (ev_bin (ev_bin (ev_var rfl) (ev_bin (ev_var rfl) (ev_bin ev_int (ev_bin ev_int (ev_bin (ev_bin (ev_var rfl) ev_int (bop_fdiv (a:=x) (b:=8) (by exact Nat.succ_pos _) (by exact Nat.le_add_left _ _))) ev_int (bop_mod (a:=x / 8) (b:=4) (by exact Nat.succ_pos _))) (bop_mul (a:=2) (by exact Nat.le_add_left _ _) (by exact Nat.lt_of_lt_of_le ‹_› (Nat.le_add_left _ _)))) (bop_addN (a:=1))) (bop_mul (a:=i) (by exact Nat.lt_of_lt_of_le ‹_› (Nat.le_add_left _ _)) (by lia))) (bop_addN (a:=x))) ev_int (bop_mod (a:=x + i * (1 + 2 * (x / 8 % 4))) (b:=8) (by exact Nat.succ_pos _)))
 have hw:(x + i * (1 + 2 * (x / 8 % 4))) % 8 < 8:=Nat.mod_lt _ (by omega)
 generalize (x + i * (1 + 2 * (x / 8 % 4))) % 8=w at e1 hw
 obtain ⟨H',T',b',c2,p,g⟩:=l_act (n:=n) k0 hr hs hw y
 rw [h.e] at c2
 exact ⟨H',T',b',w,exs_nx e1 (exs_nx (ex_ite_f (tv_b (ev_not (ev_call (evs_cons (ev_var rfl) (evs_cons (ev_var rfl) (evs_cons (ev_call (evs_cons (ev_var rfl) (evs_cons (ev_bin ev_int (ev_var rfl) (bop_addN (a:=6))) evs_nil)) c1) evs_nil))) c2) rfl rfl)) exs_nil) exs_nil),h.post pre1 p,g.r,g.s⟩
noncomputable def ssTail (s:Ss):Ss:=Ss.casesOn s .nil λ_ ss=>ss
noncomputable def lawTail:Ss:=ssTail (ssTail b_law)
theorem l_law (hr:H[r]?=some (.list (ci ns))) (hl:0 < ns.length∧ns.length ≤ 15) :
  ∃ H',EXs (run thePrg (n + 10)) lawTail [s0,s1,some (.ref r),none,none,none,none,none,none,none] H (.ret (.bool true) H'):=by
 obtain ⟨x,c1⟩:=draw_at (n:=n + 9) (i:=0) hr hl (by exact Nat.succ_pos _)
 have e1:EX (run thePrg (n + 10)) (.assign 3 (.call 58 (.cons (.var 2) (.cons (.int 0) .nil)))) [s0,s1,some (.ref r),none,none,none,none,none,none,none] H (.nx [s0,s1,some (.ref r),some (.int (x:Nat)),none,none,none,none,none,none] (H ++ [.frame])) :=
  ex_assign (ev_call (evs_cons (ev_var rfl) (evs_cons ev_int evs_nil)) c1)
 have e2:∃ B:Nat,B ≤ 72057594037927900∧EX (run thePrg (n + 10)) (.assign 4 (.idx (.list (.cons (.int 0) (.cons (.int 250) (.cons (.int 4294967290) (.cons (.int 72057594037927900) .nil))))) (.bin .mod (.bin .fdiv (.var 3) (.int 40)) (.int 4)))) [s0,s1,some (.ref r),some (.int (x:Nat)),none,none,none,none,none,none] (H ++ [.frame])
   (.nx [s0,s1,some (.ref r),some (.int (x:Nat)),some (.int (B:Nat)),none,none,none,none,none] (H ++ [.frame] ++ [.list [.int 0,.int 250,.int 4294967290,.int 72057594037927900]])):=by
  have hm:x / 40 % 4 < 4:=Nat.mod_lt _ (by exact Nat.succ_pos _)
  have ho:(H ++ [O.frame] ++ [.list [.int 0,.int 250,.int 4294967290,.int 72057594037927900]])[(H ++ [O.frame]).length]?=some (.list [.int 0,.int 250,.int 4294967290,.int 72057594037927900]):=get_mid
  have go:∀ B:Nat,([V.int 0,.int 250,.int 4294967290,.int 72057594037927900]:List V)[x / 40 % 4]?=some (.int (B:Nat))→EX (run thePrg (n + 10)) (.assign 4 (.idx (.list (.cons (.int 0) (.cons (.int 250) (.cons (.int 4294967290) (.cons (.int 72057594037927900) .nil))))) (.bin .mod (.bin .fdiv (.var 3) (.int 40)) (.int 4)))) [s0,s1,some (.ref r),some (.int (x:Nat)),none,none,none,none,none,none] (H ++ [.frame])
   (.nx [s0,s1,some (.ref r),some (.int (x:Nat)),some (.int (B:Nat)),none,none,none,none,none] (H ++ [.frame] ++ [.list [.int 0,.int 250,.int 4294967290,.int 72057594037927900]])):=λB hB =>
   ex_assign (ev_idx (ev_list (evs_cons ev_int (evs_cons ev_int (evs_cons ev_int (evs_cons ev_int evs_nil))))) (ev_bin (ev_bin (ev_var rfl) ev_int (bop_fdiv (a:=x) (b:=40) (by exact Nat.succ_pos _) (by exact Nat.le_add_left _ _))) ev_int (bop_mod (a:=x / 40) (b:=4) (by exact Nat.succ_pos _))) (idxL (i:=x / 40 % 4) ho (by decide) rfl hB))
  rcases (by lia:x / 40 % 4=0∨x / 40 % 4=1∨x / 40 % 4=2∨x / 40 % 4=3) with c | c | c | c
  ·exact ⟨0,by exact Nat.zero_le _,go 0 (by rw [c];rfl)⟩
  ·exact ⟨250,by exact Nat.le_add_left _ _,go 250 (by rw [c];rfl)⟩
  ·exact ⟨4294967290,by exact Nat.le_add_left _ _,go 4294967290 (by rw [c];rfl)⟩
  ·exact ⟨72057594037927900,by exact Nat.le_refl _,go 72057594037927900 (by rw [c];rfl)⟩
 obtain ⟨B,hB,e2⟩:=e2
 have r2:=get_app (G:=[O.list [.int 0,.int 250,.int 4294967290,.int 72057594037927900]]) (get_app (G:=[O.frame]) hr)
 generalize H ++ [O.frame] ++ [.list [.int 0,.int 250,.int 4294967290,.int 72057594037927900]]=H2 at e2 r2
 obtain ⟨H3,T3,b3,e3,k3,q1,q2,p3,t3⟩:=f_book (H:=H2) (n:=n + 7) hB (e:=[s0,s1,some (.ref r),some (.int (x:Nat)),some (.int (B:Nat)),none,none,none,none,none]) rfl
 have e3:EX (run thePrg (n + 10)) (.assign 5 bookE) [s0,s1,some (.ref r),some (.int (x:Nat)),some (.int (B:Nat)),none,none,none,none,none] H2 (.nx (LE s0 s1 r x B b3.rb none none none none) H3):=ex_assign e3
 have i3:LI H3 T3 b3 r b3.rb ns:=⟨k3,rfl,get_pre p3 r2,t3 r (lt_of_get r2)⟩
 generalize b3.rb=rb at e3 i3
 obtain ⟨_,e4,v6,v7,v8,H4,T4,b4,rfl,i4,r4,s4,z4⟩:=ex_forR (call:=run thePrg (n + 10)) (x:=6) (A:=.int 1) (B:=.int 6) (C:=.int 1) (body:=turn1) (s:=LE s0 s1 r x B rb none none none none) (H:=H3) (i:=1) (j:=6) (k:=1)
  (λq=>Ex6 λv6 v7 v8 H' T' b'=>And5 (q = .nx (LE s0 s1 r x B rb v6 v7 v8 none) H') (LI H' T' b' r rb ns) (b'.R.length=5) (b'.S.length ≤ 1150) (0 < b'.S.length))
  (λt e h=>Ex5 λv6 v7 v8 T' b'=>And5 (e=LE s0 s1 r x B rb v6 v7 v8 none) (LI h T' b' r rb ns) (b'.R.length=t) (b'.S.length ≤ 230 * t) ((0 < t→0 < b'.S.length))) ev_int ev_int ev_int rfl ⟨none,none,none,T3,b3,rfl,i3,by rw [q1];rfl,by rw [q2];exact Nat.zero_le _,λq=>absurd q (Nat.lt_irrefl _)⟩ (by
   rintro t e h ht ⟨v6,v7,v8,T',b',rfl,i',a1,a2,a3⟩
   have ht:t < 5:=ht
   obtain ⟨H5,T5,b5,y,m,e5,i5,r5,s5,z5⟩:=l_turn1 (n:=n + 1) (s0:=s0) (s1:=s1) (x:=x) (B:=B) (v7:=v7) (v8:=v8) i' hl (by lia) (by lia) (i:=1 + t) (by lia)
   have e5:EXs (run thePrg (n + 10)) turn1 (put (LE s0 s1 r x B rb v6 v7 v8 none) 6 (.int (1 + 1 * (t:Nat)))) h (.nx (LE s0 s1 r x B rb (some (.int (1 + t:Nat))) (some (.int (y:Nat))) (some (.int (m:Nat))) none) H5):=by
    rw [show (1:Int) + 1 * (t:Nat)=(1 + t:Nat) by lia]
    exact e5
   exact ⟨_,e5,_,_,_,T5,b5,rfl,i5,by lia,by lia,λ_=>z5⟩) (by
   rintro e h ⟨v6,v7,v8,T',b',rfl,i',a1,a2,a3⟩
   have a1:b'.R.length=5:=a1
   have a2:b'.S.length ≤ 230 * 5:=a2
   exact ⟨v6,v7,v8,h,T',b',rfl,i',a1,by omega,a3 (by decide)⟩)
 obtain ⟨H6,c6,p6⟩:=l_agrees (n:=n + 7) i4.k z4 x
 rw [i4.e] at c6
 have e6:EX (run thePrg (n + 10)) (.ite (.not (.call 66 (.cons (.var 5) (.cons (.var 3) .nil)))) (.cons (.ret (.bool false)) .nil) .nil) (LE s0 s1 r x B rb v6 v7 v8 none) H4 (.nx (LE s0 s1 r x B rb v6 v7 v8 none) H6) :=
  ex_ite_f (tv_b (ev_not (ev_call (evs_cons (ev_var rfl) (evs_cons (ev_var rfl) evs_nil)) c6) rfl rfl)) exs_nil
 have i6:LI H6 T4 b4 r rb ns:=⟨i4.k.pre p6,i4.e,get_pre p6 i4.o,i4.t⟩
 obtain ⟨_,e7,w6,w9,H7,T7,b7,rfl,i7,r7,s7⟩:=ex_forR (call:=run thePrg (n + 10)) (x:=6) (A:=.int 0) (B:=.int 8) (C:=.int 1) (body:=turn2) (s:=LE s0 s1 r x B rb v6 v7 v8 none) (H:=H6) (i:=0) (j:=8) (k:=1)
  (λq=>Ex5 λv6 v9 H' T' b'=>And4 (q = .nx (LE s0 s1 r x B rb v6 v7 v8 v9) H') (LI H' T' b' r rb ns) (b'.R.length ≤ 21) (b'.S.length ≤ 1470))
  (λt e h=>Ex4 λv6 v9 T' b'=>And4 (e=LE s0 s1 r x B rb v6 v7 v8 v9) (LI h T' b' r rb ns) (b'.R.length ≤ 5 + 2 * t) (b'.S.length ≤ 1150 + 40 * t)) ev_int ev_int ev_int rfl ⟨v6,none,T4,b4,rfl,i6,by exact Nat.le_of_eq ‹_›,by omega⟩ (by
   rintro t e h ht ⟨v6,v9,T',b',rfl,i',a1,a2⟩
   have ht:t < 8:=ht
   obtain ⟨H5,T5,b5,w,e5,i5,r5,s5⟩:=l_turn2 (n:=n) (s0:=s0) (s1:=s1) (x:=x) (B:=B) (v7:=v7) (v8:=v8) (v9:=v9) i' hl (by lia) (by lia) (i:=t) ht
   have e5:EXs (run thePrg (n + 10)) turn2 (put (LE s0 s1 r x B rb v6 v7 v8 v9) 6 (.int (0 + 1 * (t:Nat)))) h (.nx (LE s0 s1 r x B rb (some (.int (t:Nat))) v7 v8 (some (.int (w:Nat)))) H5):=by
    rw [show (0:Int) + 1 * (t:Nat)=(t:Nat) by omega]
    exact e5
   exact ⟨_,e5,_,_,T5,b5,rfl,i5,by omega,by omega⟩) (by
   rintro e h ⟨v6,v9,T',b',rfl,i',a1,a2⟩
   have a1:b'.R.length ≤ 5 + 2 * 8:=a1
   have a2:b'.S.length ≤ 1150 + 40 * 8:=a2
   exact ⟨v6,v9,h,T',b',rfl,i',a1,a2⟩)
 obtain ⟨y,c8⟩:=draw_at (n:=n + 9) (i:=14) i7.o hl (by omega)
 have k8:=i7.k.pre (pre1 (G:=[O.frame]))
 obtain ⟨H9,c9⟩:=l_close (n:=n) k8 (by omega) (by omega) y
 rw [i7.e] at c9
 exact ⟨H9,exs_nx e1 (exs_nx e2 (exs_nx e3 (exs_nx e4 (exs_nx e6 (exs_nx e7 (exs_ret (ex_ret (ev_call (evs_cons (ev_var rfl) (evs_cons (ev_call (evs_cons (ev_var rfl) (evs_cons ev_int evs_nil)) c8) evs_nil)) c9))))))))⟩
end
end Mine
end
section
open PySem PySem.W PyProof.Rows PySem.Calls PyProof.Rows.LCg
set_option maxRecDepth 100000
set_option maxHeartbeats 8000000
namespace Mine
section
variable {prog:Program} {w:World} {K:Frag} {p:Program} {loose:List Str} {mg mb:Str→Option Value} {A A₀:Around} {base h₀:Heap} {outer:List Env} {env:Env} {L:Addr} {d n:Nat} {nm:Nat→Str} {ca:CA} {fa:Nat→Addr} {T:Tb} {call:CallF}
theorem x_compL0 (hh:A.handled=none) {F:En→V→Hp→Option (V × Hp)} {elt iter:PySem.Expr} {x y:Str} {px py pos spos:Pos} {scope:Scope} {cl:List (Str × Addr)} (hl:env.locals=L) (hs:ScOk scope env x cl)
  (hf:∀ e,EltOk prog w nm ca A h₀ L env T (F e) e elt x scope cl) (hset:setLike iter=false)
  (hsw:swapsWith (.ListComp elt [⟨.Name x px,iter,[],0⟩] scope pos) (some (.Name y py)) spos.line env=pure true)
  (hy:env.kindOf y=some .local) (hp:(env.scope.kind == .class || (env.scope.kind == .module && env.locals != env.globals))=false)
  {e:En} {H:Hp} {r:Nat} {H1:Hp} {l:List V} (hlr:H1[r]?=some (.list l)) (hcap:l.length < capL) {v:V} {H':Hp} (hv:compL (F e) r l l [] H1=some (v,H'))
  {s:Shared} {m:Str→Option Value} {R:List RO} {X:List (Addr × Obj)} {Q:Flow→Shared→Prop} {E:Value→Shared→Prop} (hR:Rep w.params nm ca h₀ L X m s.heap R H) (hE:EnvN T env L X m (ads R) e)
  (ha:∀ (Q E:Value→Shared→Prop),(∀ h' tk R' u,Rep w.params nm ca h₀ L X m h' R' H1→ads R <+: ads R'→VR (ads R') (.ref r) u→Q u { s with heap:=h',toks:=tk })→wpAny (model prog w) A (eval iter env) Q E s)
  (k:∀ h' tk R' u,Rep w.params nm ca h₀ L X (λz=>if z=y then some u else m z) h' R' H'→ads R <+: ads R'→VR (ads R') v u→Q .next { s with heap:=h',toks:=tk }) :
  wpAny (model prog w) A (exec (.Assign [.Name y py] (.ListComp elt [⟨.Name x px,iter,[],0⟩] scope pos) spos) env) Q E s:=by
 subst hl
 rw [exec_Assign_Name_used _ _ _ _ hsw]
 refine wpAny_bind (wpAny_standAt (wpAny_bind ?_))
 show wpAny _ A (do let _ ← comprehension (.ListComp elt [⟨.Name x px,iter,[],0⟩] scope pos) scope env _ (newList []) false (eval iter env) (some (assign (.Name y py) env))) _ _ s
 refine wpAny_bind (wpAny_mono (wpAny_comprehension_free (use:=some (assign (.Name y py) env)) (Q:=λ_ s'=>Q .next s') rfl (λy=>folded_plain hset env y) hs.hclos hs.hkind hs.hnames ?_) (λ_ s' hq=>wpAny_pure (wpAny_pure hq)) λ_ _ e=>e)
 refine ha _ _ λh' tk R' a hR' e1 va=>?_
 refine comp_list hh (s:={ s with heap:=h',toks:=tk }) hs (hf e) hlr hcap hv hR' va ((hE.mono e1).here rfl hR') ?_
 intro D C h2 tk2 R2 m' ys H₁ F' N' o1 hn hC₀ hD₀ hCL hDL hCD offC f1 f2 f3 f4 f5 f6
 show wpAny _ A (assign (.Name y py) env (.ref D)) _ _ _
 refine wpAny_assign_Name (wpAny_storeName_local hy F'.ns (λh₂ hn₂ hs₂=>?_) hp)
 have hL₀:h₀.get? env.locals=none:=Heap.get?_none_of_le F'.above
 have F₂:Fr h₀ env.locals h₂ (λz=>if z=y then some (.ref D) else m z):=⟨hn₂,λb o e=>hs₂.extBut b o (λq=>by rw [q,hL₀] at e;cases e) (F'.keep b o e),F'.above⟩
 refine ⟨m',hn.sameBut hs₂ hCL,λh'' hs''=>?_⟩
 obtain ⟨R3,r1,r2,r3⟩:=fin_rep f3 f4 f6 (F₂.change hs'' hCL hC₀) (λp hp=>by
  have z:h₂.get? p.1=some p.2:=hs₂.extBut _ _ (N' p hp).2.1 (N' p hp).1
  refine ⟨hs''.extBut _ _ ?_ z,(N' p hp).2⟩
  rcases List.mem_cons.mp hp with rfl | hp
  ·exact Ne.symm hCD
  ·exact offC p hp) o1
 subst f1 f2
 exact k h'' _ R3 _ r1 ((e1.trans f5).trans r2) r3
theorem tb_ok {f:Nat} {names:List (Str × NameKind)} (h15:(slL.getD f []).Nodup) (h16:names.lookup ⟨#[]⟩=none):(tbF f names).Ok:=by
 have hsn:∀ i y,(slL.getD f [])[i]?=some y→y=snF f i:=λi y hi=>by
  unfold snF;rw [List.getD_eq_getElem?_getD,hi];rfl
 intro x y k hk hxy
 have hin:∀ z,snF f z ≠ ⟨#[]⟩→(slL.getD f [])[z]?=some (snF f z):=λz hz=>by
  cases q:(slL.getD f [])[z]? with
  | some s=>rw [hsn z s q]
  | none=>exact absurd (by unfold snF;rw [List.getD_eq_getElem?_getD,q];rfl) hz
 have hx:snF f x ≠ ⟨#[]⟩:=λq=>by
  have hk:names.lookup (snF f x)=some k:=hk
  rw [q,h16] at hk;cases hk
 have hy:snF f y ≠ ⟨#[]⟩:=λq=>hx ((show snF f x=snF f y from hxy).trans q)
 exact nodup_inj h15 (hin x hx) (by rw [hin y hy];exact congrArg some (show snF f x=snF f y from hxy).symm)
theorem ints_take {vs:List Value} {xs:List Int} (k:Nat) (h:IntsAre vs xs):IntsAre (vs.take k) (xs.take k):=by
 induction h generalizing k with
 | nil=>rw [List.take_nil,List.take_nil];exact .nil
 | cons n t h ih=>cases k with
  | zero=>exact .nil
  | succ k=>exact .cons _ _ (ih k)
theorem ints_vrs {φ:List Addr} {vs:List Value} {xs:List Int} (h:IntsAre vs xs):VRs φ (xs.map .int) vs:=by
 induction h with
 | nil=>trivial
 | cons n t h ih=>exact ⟨⟨t,rfl⟩,ih⟩
theorem script_cut (C0:Cx0 K p loose mg mb A h₀ env L) {id:Str} {p1 p2 p3 p4:Pos} {k:Nat} {a:Addr} {vs:List Value} {xs:List Int} (hloc:env.scope.names.lookup id=some .local) (hdb:(id == ("__debug__":Str))=false) (hl:env.locals=L)
  {s:Shared} {m:Str→Option Value} (hm:m id=some (.ref a)) (hL:h₀.IsList a vs.toArray) (hI:IntsAre vs xs) (hlen:vs.length ≤ sizeLine) (hR:Rep w.params nm ca h₀ L [] m s.heap [] [])
  (Q E:Value→Shared→Prop) (kk:∀ h' tk R' u,Rep w.params nm ca h₀ L [] m h' R' [.list ((xs.take 15).map .int)]→VR (ads R') (.ref 0) u→Q u { s with heap:=h',toks:=tk }) :
  wpAny (model prog w) A (eval (.Subscript (.Name id p1) (.Slice none (some (.Constant (.int 15) k p2)) none p3) p4) env) Q E s:=by
 have hns:s.heap.Ns env.locals m:=hl ▸ hR.F.ns
 refine Subscript_ (wpAny_Name (wpAny_loadName_local C0.hk hloc hns hm ?_) hdb)
 refine wpAny_Slice ?_
 rw [evalPart_none]
 refine wpAny_pure ?_
 rw [evalPart_some]
 refine s_int (T:=tbF 71 []) (e:=[]) (L:=L) (nm:=nm) (ca:=ca) (h₀:=h₀) [] (.int 15) [] rfl s m [] [] _ _ hR ⟨m,.inl ⟨hl,rfl⟩,λx v hx=>by cases hx⟩ λh3 tk3 R3 b hR3 e3 vb=>?_
 refine wpAny_pure ?_
 obtain ⟨t,rfl⟩:=vb
 refine tail_base (x := "x") (p:=default) ?_
 have L1:h3.IsList a vs.toArray:=let ⟨o,ho,r⟩:=hL;⟨o,hR3.F.keep _ _ ho,r⟩
 refine kms_slice_lit (s:={ s with heap:=h3,toks:=tk3 }) (zs:=vs.take 15) hR3.F hR3.N L1 .none (.int 15 t) ?_ (λD h4 F4 N4 hD=>?_) rfl (λr=>rfl) (by simpa using hlen)
 ·unfold kms_pick kms_lo kms_hi
  dsimp only
  rw [if_neg (by omega)]
  simp only [List.drop_zero,Nat.sub_zero]
  rw [List.take_eq_take_iff];simp
 ·obtain ⟨R5,r1,r2,r3⟩:=rep_newList hR3 F4 N4 hD (ints_vrs (ints_take 15 hI))
  exact kk h4 tk3 R5 _ r1 r3
end
end Mine
end
section
open PySem PySem.W PyProof.Rows PySem.Calls
set_option maxRecDepth 100000
set_option maxHeartbeats 8000000
namespace Mine
theorem kOne_in {h:Heap} {a:Addr}:∀ q ∈ kOne h a,h.get? q.1=some q.2:=by
 intro q hq
 unfold kOne at hq
 cases ho:h.get? a with
 | none=>rw [ho] at hq;cases hq
 | some o=>rw [ho] at hq;rw [List.mem_singleton.mp hq];exact ho
theorem kRef_in {h:Heap} {v:Value}:∀ q ∈ kRef h v,h.get? q.1=some q.2:=by
 intro q hq
 cases v <;> first | exact absurd (show q ∈ ([]:Frag) from hq) List.not_mem_nil | exact kOne_in q hq
theorem kAt_in {h:Heap} {a:Addr}:∀ q ∈ kAt h a,h.get? q.1=some q.2:=by
 intro q hq
 unfold kAt at hq
 cases ho:h.get? a with
 | none=>rw [ho] at hq;cases hq
 | some o =>
  rw [ho] at hq
  obtain ⟨c,d,dat,sl⟩:=o
  cases dat <;> first | exact absurd (show q ∈ ([]:Frag) from hq) List.not_mem_nil | skip
  all_goals
   rcases List.mem_cons.mp hq with rfl | hq
   ·exact ho
   ·first | exact kOne_in q hq | exact kRef_in q hq
theorem kOf_in {h:Heap}:(kOf h).In h:=by
 intro a o e
 have hm:=mem_lookup e
 unfold kOf at hm
 simp only [List.mem_append,List.mem_flatMap] at hm
 rcases hm with (q | q) | ⟨b,_,q⟩
 ·exact kOne_in _ q
 ·exact kOne_in _ q
 ·exact kAt_in _ q
noncomputable def YK (_:World) (h:Heap):Prop:=∃ K:Frag,K.In h∧kChk K=true
theorem yk_of (w:World) (s:Shared) (h:kChk (kOf s.heap)=true):YK w s.heap:=⟨_,kOf_in,h⟩
theorem yk_keeps (w:World) (h h':Heap) (y:YK w h) (k:∀ b o,h.get? b=some o→h'.get? b=some o):YK w h':=let ⟨K,a,b⟩:=y;⟨K,a.keeps k,b⟩
noncomputable def lawBody:List Stmt:=(thePw.main.body.getLast?).elim [] λs=>Stmt.casesOn s (λ_ _ b _ _ _ _ _ _ _=>b) (λ_ _ _ _ _ _ _ _ _ _=>[]) (λ_ _ _ _ _ _ _ _ _ _ _=>[]) (λ_ _=>[]) (λ_ _=>[]) (λ_ _ _=>[]) (λ_ _ _ _ _ _ _=>[]) (λ_ _ _ _=>[]) (λ_ _ _ _ _=>[]) (λ_ _ _ _ _=>[]) (λ_ _ _ _ _=>[]) (λ_ _ _ _=>[]) (λ_ _ _ _=>[]) (λ_ _ _=>[]) (λ_ _ _=>[]) (λ_ _ _=>[]) (λ_ _ _=>[]) (λ_ _ _ _ _=>[]) (λ_ _ _ _ _=>[]) (λ_ _ _=>[]) (λ_ _=>[]) (λ_ _ _ _=>[]) (λ_ _=>[]) (λ_ _=>[]) (λ_ _=>[]) (λ_=>[]) (λ_=>[]) (λ_=>[])
theorem body_law:theD.body=lawBody:=by kernel_rfl
noncomputable def theTb:Tb:=tbF 71 theD.scope.names
theorem tb_good:theTb.Ok:=tb_ok (by decide +kernel) (by kernel_rfl)
theorem no_cells:(theD.scope.names.all λq=>q.2 != .cell)=true:=by kernel_rfl
theorem law_fn:theD.scope.kind = .function:=by kernel_rfl
noncomputable def lawRest:Ss:=ssTail b_law
theorem first_is:∃ (py px p1 p2 p3 p4 pos spos:Pos) (el:PySem.Expr) (scope:Scope) (k:Nat),lawBody = .Assign [.Name (Str.ofString "nums") py] (.ListComp el [⟨.Name (Str.ofString "x") px,.Subscript (.Name (Str.ofString "script") p1) (.Slice none (some (.Constant (.int 15) k p2)) none p3) p4,[],0⟩] scope pos) spos :: lawBody.tail ∧
 (theTb.loc 2 (Str.ofString "nums") && swapOk theTb (Str.ofString "nums") py.line pos.line scope && theTb.loc 0 (Str.ofString "script") && compOk theTb 1 [] (Str.ofString "x") scope && chkE (.bin .mod (.var 1) (.int 999983)) (theTb.comp 1 (Str.ofString "x") scope) el && chkSs lawRest theTb lawBody.tail)=true :=
 ⟨_,_,_,_,_,_,_,_,_,_,_,rfl,by kernel_rfl⟩
noncomputable def e0:En:=List.replicate 10 none
noncomputable def mods (xs:List Int):List Nat:=(xs.take 15).map λi=>(i % 999983).toNat
theorem law_pure (xs:List Int):Ex3 λv H2 H3=>compL (λv H=>ev thePrg (run thePrg 10) (.bin .mod (.var 1) (.int 999983)) (put (maskE [] e0) 1 v) H) 0 ((xs.take 15).map .int) ((xs.take 15).map .int) [] [.list ((xs.take 15).map .int)]=some (v,H2)∧exs thePrg (run thePrg 10) lawRest (put e0 2 v) H2 = .ret (.bool true) H3:=by
 obtain ⟨h,e1,rfl⟩:=compL_is (elt:=λv H=>ev thePrg (run thePrg 10) (.bin .mod (.var 1) (.int 999983)) (put (maskE [] e0) 1 v) H) (r:=0) (l:=(xs.take 15).map .int) (λv=>match v with | .int i=>.int (i % 999983) | v=>v) (λh=>h = [.list ((xs.take 15).map .int)]) (λh q=>by rw [q];rfl) ((xs.take 15).map .int) [] [.list ((xs.take 15).map .int)] (by
  rintro v hv h rfl
  obtain ⟨i,_,rfl⟩:=List.mem_map.mp hv
  exact ⟨_,ev_bin (call:=run thePrg 10) (ev_var (v:=.int i) rfl) ev_int rfl,rfl⟩) rfl
 have e2:([]:List V) ++ ((xs.take 15).map V.int).map (λv=>match v with | .int i=>.int (i % 999983) | v=>v)=ci (mods xs):=by
  unfold ci mods
  rw [List.nil_append,List.map_map,List.map_map]
  refine List.map_congr_left λi _=>?_
  show V.int (i % 999983)=V.int ((i % 999983).toNat:Nat)
  rw [Int.toNat_of_nonneg (Int.emod_nonneg _ (by decide))]
 rw [e2] at e1
 have hl:(mods xs).length ≤ 15:=by unfold mods;rw [List.length_map,List.length_take];omega
 have ho:([O.list ((xs.take 15).map .int)] ++ [O.list (ci (mods xs))])[1]?=some (.list (ci (mods xs))):=rfl
 have hlen:lenOf (.ref 1) ([O.list ((xs.take 15).map .int)] ++ [O.list (ci (mods xs))])=some (mods xs).length:=by rw [lenL ho (by unfold ci capL;rw [List.length_map];omega)];unfold ci;simp
 have t:∀ c,(((mods xs).length:Int) == 0)=c→TV (run thePrg 10) (.cmp .eq (.len (.var 2)) (.int 0)) (put e0 2 (.ref 1)) ([O.list ((xs.take 15).map .int)] ++ [O.list (ci (mods xs))]) c ([O.list ((xs.take 15).map .int)] ++ [O.list (ci (mods xs))]):=λc hc=>tv_b (ev_cmp (ev_len (ev_var rfl) hlen) ev_int (congrArg some hc))
 cases hc:(((mods xs).length:Int) == 0) with
 | true =>
  obtain ⟨H3,e3⟩:=l_law (n:=0) (s0:=none) (s1:=none) (r:=2) (ns:=[0]) (H:=[O.list ((xs.take 15).map .int)] ++ [O.list (ci (mods xs))] ++ [.list [.int 0]]) rfl ⟨by decide,by decide⟩
  exact ⟨_,_,H3,e1,exs_nx (ex_ite_t (t _ hc) (exs_nx (ex_assign (ev_list (evs_cons ev_int evs_nil))) exs_nil)) e3⟩
 | false =>
  obtain ⟨H3,e3⟩:=l_law (n:=0) (s0:=none) (s1:=none) (r:=1) ho ⟨by
   rcases Nat.eq_zero_or_pos (mods xs).length with q | q
   ·rw [q] at hc;cases hc
   ·exact q,hl⟩
  exact ⟨_,_,H3,e1,exs_nx (ex_ite_f (t _ hc) exs_nil) e3⟩
theorem law_walk {prog:Program} {w:World} {K:Frag} {p:Program} {loose:List Str} {mg mb:Str→Option Value} {A:Around} {h₀:Heap} {env:Env} {L:Addr} (KC:kChk K=true)
  (C:Cx prog w K p loose mg mb ⟨ccF,λ_=>none⟩ A h₀ [] env L 21) (hs:env.scope=theD.scope) (hl:env.locals=L)
  {s:Shared} {m:Str→Option Value} {a:Addr} {vs:List Value} {xs:List Int} (hm:m (Str.ofString "script")=some (.ref a)) (hL:h₀.IsList a vs.toArray) (hI:IntsAre vs xs) (hlen:vs.length ≤ sizeLine)
  (F:Fr h₀ L s.heap m) {Q:Flow→Shared→Prop} {E:Value→Shared→Prop} (k:∀ h' tk,(∀ b o,h₀.get? b=some o→h'.get? b=some o)→Q (.ret (.bool true)) { s with heap:=h',toks:=tk }) :
  wpAny (model prog w) A (execs theD.body env) Q E s:=by
 obtain ⟨kc1,kc2⟩:=Bool.and_eq_true_iff.mp KC
 obtain ⟨py,px,p1,p2,p3,p4,pos,spos,el,scope,kk,hb,hc⟩:=first_is
 simp only [Bool.and_eq_true] at hc
 obtain ⟨⟨⟨⟨⟨c1,c2⟩,c3⟩,c4⟩,c5⟩,c6⟩:=hc
 have KO:=tbl_of kc1
 have hcall:=λfr=>call_ok (prog:=prog) (w:=w) (K:=K) (p:=p) (loose:=loose) (mg:=mg) (mb:=mb) (fns_of kc1 kc2) 10 fr
 have hnc:∀ x,theD.scope.names.lookup x ≠ some .cell:=λx q=>by
  have:=List.all_eq_true.mp no_cells _ (mem_lookup q)
  cases this
 have hcells:∀ x,env.scope.names.lookup x=some .cell→(env.cells.lookup x).isSome=true:=λx q=>by
  rw [hs] at q;exact absurd q (hnc x)
 have G:Gd K p loose mg mb A h₀ env L nmF giF fnF clF exF theTb env:=⟨C.toCx0,by rw [hs];rfl,rfl,rfl,rfl,rfl,rfl,λ_=>rfl⟩
 have hcl:=λx (hx:theTb.names.lookup x=some .cell)=>hcells x (by rw [← G.names];exact hx)
 let tc:TC:=⟨prog,w,K,p,loose,mg,mb,A,h₀,[],env,L,20,nmF,ccF,faF,λ_=>none,run thePrg 10,thePrg,giF,fnF,clF,exF,KO,C,hcall _,hl,hcells⟩
 obtain ⟨v,H2,H3,e1,e2⟩:=law_pure xs
 have d1:=c1
 have d3:=c3
 simp only [Tb.loc,Bool.and_eq_true,Bool.not_eq_true'] at d1 d3
 have hy:env.kindOf (Str.ofString "nums")=some .local:=by unfold Env.kindOf;rw [← G.names];simpa using d1.1.2
 have hsl:env.scope.names.lookup (Str.ofString "script")=some .local:=by rw [← G.names];simpa using d3.1.2
 have hid:Str.ofString "nums"=theTb.sn 2:=beq_true_iff d1.1.1
 have hll:theTb.names.lookup (theTb.sn 2)=some .local:=by rw [← hid];simpa using d1.1.2
 have hp:(env.scope.kind == .class || (env.scope.kind == .module && env.locals != env.globals))=false:=by rw [hs,law_fn];rfl
 have hR0:Rep w.params nmF ⟨ccF,λ_=>none⟩ h₀ L [] m s.heap [] []:=⟨F,(λ_ h=>nomatch h),List.nodup_nil,⟨rfl,(λi o r h=>by cases h),λx d h=>by cases h⟩⟩
 have hE0:∀ (φ:List Addr) (m:Str→Option Value),EnvR theTb env.cells φ m e0:=λφ m x v hx=>by
  unfold look e0 at hx
  rw [List.getElem?_replicate] at hx
  split at hx <;> cases hx
 rw [body_law,hb]
 refine wpAny_execs_cons ?_
 refine x_compL0 (F:=λe v H=>ev thePrg (run thePrg 10) (.bin .mod (.var 1) (.int 999983)) (put (maskE [] e) 1 v) H) (T:=theTb) (nm:=nmF) (ca:=⟨ccF,λ_=>none⟩) (h₀:=h₀) (L:=L) (H1:=[.list ((xs.take 15).map .int)]) (r:=0) (l:=(xs.take 15).map .int) (e:=e0) (R:=[]) (X:=[]) (H:=[]) (m:=m)
  G.C0.hh hl (scOk_of (by rw [hs];exact law_fn) hcl c4) (λe=>elt_of (by rw [hs];exact law_fn) G.names c4 e λc=>soundE tc (.bin .mod (.var 1) (.int 999983)) (theTb.comp 1 _ scope) _ _ c5
   ⟨comp_cx0 G.C0 (compOk_parts c4).1,comp_names G.names (by rw [hs];exact law_fn),G.tnm,G.tgi,G.tfn,G.tcl,G.tex,λq=>nomatch q⟩) rfl (swap_of (c:=tc) G c1 c2) hy hp rfl (by rw [List.length_map,List.length_take];unfold capL;omega) e1 hR0 ((hE0 _ _).toN hl) (λQ' E' k'=>?_) λh' tk R' u hR' _ vu=>?_
 ·exact script_cut G.C0 hsl (by decide) hl hm hL hI hlen hR0 Q' E' λh' tk R' u r v=>k' h' tk R' u r ⟨_,rfl⟩ v
 ·have hE':=(hE0 (ads R') m).put tb_good hll vu
  rw [← hid] at hE'
  refine soundSs tc lawRest theTb lawBody.tail c6 G tb_good _ _ _ _ R' [] _ _ hR' hE' ?_
  dsimp only
  rw [e2]
  intro h'' tk' m' R'' u' hR'' _ vu'
  obtain rfl:u' = .bool true:=vu'
  exact k h'' tk' hR''.F.keep
theorem walk_any (q:Program) (loose:List Str):WalkO q loose (XL q []) YK theR.toRowW theD [] λf vs=>PySem.call f vs:=by
 intro w s₀ s₁ mg mb G Y fa o pm cd doc dV kV ho hd hcd hD hmg hg args vals as hpre hlay hrd hwl hlo
 have KX:=Y
 k_behind G ho hd hcd hD hmg hpre hlay hrd hwl hlo cd
 rename_i F N0
 rename Fr _ _ _ _=>F
 rename Top _ _ _ _ _ _=>T
 rename IntsAre _ _=>hI
 rename Heap.IsList _ _ _=>hL
 rename ¬ _ < _=>hmost
 obtain ⟨K,hK,hKC⟩:=KX
 refine law_walk (K:=K) (p:=q) (loose:=looseW q loose) (mg:=mg) (mb:=mb) hKC ⟨⟨law_fn,rfl,rfl,hK,topRead_of T,rfl,Nat.le_of_ble_eq_true rfl⟩,(λ_ h=>nomatch h),rfl,rfl,rfl,Nat.le_of_ble_eq_true rfl,Nat.le_of_ble_eq_true rfl⟩ rfl rfl rfl hL hI ?_ F λh' tk keep=>?_
 ·rw [hI.length]
  unfold sizeLine
  omega
 ·exact ⟨.inl ⟨_,.bool true,[],rfl,λ_=>rfl,.bool _,by first | kernel_rfl | with_unfolding_all rfl,λ_=>⟨List.nodup_nil,λ_ h=>nomatch h⟩⟩,keep,rfl,hg⟩
theorem the_end:PySem.Challenge.rw_xm0856_01.Holds:=holds_of left yk_of yk_keeps (walk_any _ _)
end Mine
end
theorem PySem.Challenge.cw_xm0856_01_holds : PySem.Challenge.rw_xm0856_01.Holds :=
  Mine.the_end
