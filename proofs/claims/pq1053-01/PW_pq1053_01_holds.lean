import PyProof.Rows.All
import KE.BytesMake
import KE.KUnpack
import KE.KBytesWalk
import Wide.Built
import PySem.Challenge.RW_pq1053_01
set_option linter.unusedVariables false
set_option linter.unusedSimpArgs false
set_option Elab.async false
set_option maxRecDepth 100000
set_option bootstrap.genMatcherCode false
set_option genSizeOf false
section
open PySem
namespace Mine
inductive AV where
 | none | bool (b:Bool) | int (i:Int) | str (s:Str) | bytes (b:List UInt8) | tup (xs:List AV) | ref (k:Nat) | fn (n:Str)
 deriving Inhabited
mutual
noncomputable def AV.beq:AV→AV→Bool
 | .none=>fun b=>match b with | .none=>true | _=>false
 | .bool x=>fun b=>match b with | .bool y=>x==y | _=>false
 | .int x=>fun b=>match b with | .int y=>decide (x=y) | _=>false
 | .str x=>fun b=>match b with | .str y=>decide (x=y) | _=>false
 | .bytes x=>fun b=>match b with | .bytes y=>decide (x=y) | _=>false
 | .tup xs=>fun b=>match b with | .tup ys=>AV.beqs xs ys | _=>false
 | .ref x=>fun b=>match b with | .ref y=>decide (x=y) | _=>false
 | .fn x=>fun b=>match b with | .fn y=>decide (x=y) | _=>false
noncomputable def AV.beqs:List AV→List AV→Bool
 | []=>fun b=>match b with | []=>true | _::_=>false
 | x::xs=>fun b=>match b with | []=>false | y::ys=>AV.beq x y&&AV.beqs xs ys
end
theorem j0 {α:Type} {r:α} {C:Prop} (h:none=some r):C:=nomatch h
theorem j4 {a b:Bool} (h:(a&&b)=true):a=true∧b=true:=match a,h with
 | true,h=>⟨rfl,h⟩
mutual
theorem AV.beq_of:∀ (a:AV) {b:AV},AV.beq a b=true→a=b
 | .none,b=>by induction b using AV.casesOn<;>first | exact fun _=>rfl | exact fun h=>Bool.noConfusion h
 | .bool x,b=>by induction b using AV.casesOn<;>first | exact fun h=>Bool.noConfusion h | exact fun h=>congrArg AV.bool (eq_of_beq h)
 | .int x,b=>by induction b using AV.casesOn<;>first | exact fun h=>Bool.noConfusion h | exact fun h=>congrArg AV.int (of_decide_eq_true h)
 | .str x,b=>by induction b using AV.casesOn<;>first | exact fun h=>Bool.noConfusion h | exact fun h=>congrArg AV.str (of_decide_eq_true h)
 | .bytes x,b=>by induction b using AV.casesOn<;>first | exact fun h=>Bool.noConfusion h | exact fun h=>congrArg AV.bytes (of_decide_eq_true h)
 | .tup x,b=>by induction b using AV.casesOn<;>first | exact fun h=>Bool.noConfusion h | exact fun h=>congrArg AV.tup (AV.beqs_of x h)
 | .ref x,b=>by induction b using AV.casesOn<;>first | exact fun h=>Bool.noConfusion h | exact fun h=>congrArg AV.ref (of_decide_eq_true h)
 | .fn x,b=>by induction b using AV.casesOn<;>first | exact fun h=>Bool.noConfusion h | exact fun h=>congrArg AV.fn (of_decide_eq_true h)
theorem AV.beqs_of:∀ (a:List AV) {b:List AV},AV.beqs a b=true→a=b
 | [],b=>by induction b using List.casesOn<;>first | exact fun _=>rfl | exact fun h=>Bool.noConfusion h
 | x::xs,b=>by
  induction b using List.casesOn with
  | nil=>exact fun h=>Bool.noConfusion h
  | cons y ys=>
   intro h
   have h:(AV.beq x y&&AV.beqs xs ys)=true:=h
   rw [AV.beq_of x (j4 h).1,AV.beqs_of xs (j4 h).2]
end
mutual
theorem AV.beq_refl:∀ a:AV,AV.beq a a=true
 | .none=>rfl
 | .bool x=>beq_self_eq_true x
 | .int _=>decide_eq_true rfl
 | .str _=>decide_eq_true rfl
 | .bytes _=>decide_eq_true rfl
 | .tup x=>AV.beqs_refl x
 | .ref _=>decide_eq_true rfl
 | .fn _=>decide_eq_true rfl
theorem AV.beqs_refl:∀ a:List AV,AV.beqs a a=true
 | []=>rfl
 | x::xs=>by
  show (AV.beq x x&&AV.beqs xs xs)=true
  rw [AV.beq_refl x,AV.beqs_refl xs];rfl
end
noncomputable instance:DecidableEq AV:=fun a b=>if h:AV.beq a b=true then isTrue (AV.beq_of a h) else isFalse fun e=>h (e▸AV.beq_refl a)
noncomputable def yP:AV→Bool
 | .int _=>true
 | _=>false
noncomputable def j7:AV→Nat
 | .int _=>1
 | .str _=>2
 | .tup xs=>match xs with
  | [.int _,.tup ys]=>if ys.all yP then 4 else 0
  | xs=>if xs.all yP then 3 else 0
 | _=>0
inductive AO where
 | list (xs:List AV)
 | dict (fl:Nat) (es:List (AV×AV)) (ep:Nat)
 | inst (c:Str) (fs:List (Str×AV))
 | ba (b:List UInt8)
 deriving Inhabited
noncomputable def AO.beq:AO→AO→Bool
 | .list x=>fun b=>match b with | .list y=>decide (x=y) | _=>false
 | .dict f e p=>fun b=>match b with | .dict g d q=>decide (f=g)&&(decide (e=d)&&decide (p=q)) | _=>false
 | .inst c f=>fun b=>match b with | .inst d g=>decide (c=d)&&decide (f=g) | _=>false
 | .ba x=>fun b=>match b with | .ba y=>decide (x=y) | _=>false
theorem AO.beq_of (a:AO) {b:AO}:AO.beq a b=true→a=b:=by
 induction a using AO.casesOn<;>induction b using AO.casesOn<;>first | exact fun h=>Bool.noConfusion h | skip
 ·exact fun h=>congrArg AO.list (of_decide_eq_true h)
 ·intro h
  rw [of_decide_eq_true (j4 h).1,of_decide_eq_true (j4 (j4 h).2).1,of_decide_eq_true (j4 (j4 h).2).2]
 ·intro h
  rw [of_decide_eq_true (j4 h).1,of_decide_eq_true (j4 h).2]
 ·exact fun h=>congrArg AO.ba (of_decide_eq_true h)
theorem AO.beq_refl (a:AO):AO.beq a a=true:=by
 induction a using AO.casesOn<;>simp [AO.beq]
noncomputable instance:DecidableEq AO:=fun a b=>if h:AO.beq a b=true then isTrue (AO.beq_of a h) else isFalse fun e=>h (e▸AO.beq_refl a)
noncomputable abbrev St:=List AO
noncomputable abbrev Loc:=List (Str×AV)
noncomputable def j6 {α β:Type} [DecidableEq α] (k:α):List (α×β)→Option β
 | []=>none
 | (x,v)::r=>if x=k then some v else j6 k r
noncomputable def jA {α β:Type} [DecidableEq α] (k:α) (v:β):List (α×β)→List (α×β)
 | []=>[(k,v)]
 | (x,w)::r=>if x=k then (x,v)::r else (x,w)::jA k v r
noncomputable def yS {α β:Type} [DecidableEq α] (k:α):List (α×β)→List (α×β)
 | []=>[]
 | (x,w)::r=>if x=k then r else (x,w)::yS k r
noncomputable def joK (v:AV):Option Unit:=@AV.casesOn (fun _=>Option Unit) v (some ()) (fun _=>none) (fun _=>none) (fun _=>none) (fun _=>none) (fun _=>none) (fun _=>none) fun _=>none
noncomputable def jtD (v:AV):Option Bool:=@AV.casesOn (fun _=>Option Bool) v none some (fun _=>none) (fun _=>none) (fun _=>none) (fun _=>none) (fun _=>none) fun _=>none
noncomputable def vJ (v:AV):Option Int:=@AV.casesOn (fun _=>Option Int) v none (fun _=>none) some (fun _=>none) (fun _=>none) (fun _=>none) (fun _=>none) fun _=>none
noncomputable def asStr (v:AV):Option Str:=@AV.casesOn (fun _=>Option Str) v none (fun _=>none) (fun _=>none) some (fun _=>none) (fun _=>none) (fun _=>none) fun _=>none
noncomputable def jp7 (v:AV):Option (List UInt8):=@AV.casesOn (fun _=>Option (List UInt8)) v none (fun _=>none) (fun _=>none) (fun _=>none) some (fun _=>none) (fun _=>none) fun _=>none
noncomputable def asTup (v:AV):Option (List AV):=@AV.casesOn (fun _=>Option (List AV)) v none (fun _=>none) (fun _=>none) (fun _=>none) (fun _=>none) some (fun _=>none) fun _=>none
noncomputable def u0 (v:AV):Option Nat:=@AV.casesOn (fun _=>Option Nat) v none (fun _=>none) (fun _=>none) (fun _=>none) (fun _=>none) (fun _=>none) some fun _=>none
noncomputable def asList (o:AO):Option (List AV):=@AO.casesOn (fun _=>Option (List AV)) o some (fun _ _ _=>none) (fun _ _=>none) fun _=>none
noncomputable def asDict (o:AO):Option (Nat×List (AV×AV)×Nat):=@AO.casesOn (fun _=>Option (Nat×List (AV×AV)×Nat)) o (fun _=>none) (fun f e p=>some (f,e,p)) (fun _ _=>none) fun _=>none
noncomputable def asInst (o:AO):Option (Str×List (Str×AV)):=@AO.casesOn (fun _=>Option (Str×List (Str×AV))) o (fun _=>none) (fun _ _ _=>none) (fun c f=>some (c,f)) fun _=>none
noncomputable def asBa (o:AO):Option (List UInt8):=@AO.casesOn (fun _=>Option (List UInt8)) o (fun _=>none) (fun _ _ _=>none) (fun _ _=>none) some
noncomputable def listAt (S:St) (k:Nat):Option (List AV):=S[k]?.bind asList
noncomputable def dictAt (S:St) (k:Nat):Option (Nat×List (AV×AV)×Nat):=S[k]?.bind asDict
noncomputable def jiV (S:St) (k:Nat):Option (Str×List (Str×AV)):=S[k]?.bind asInst
noncomputable def baAt (S:St) (k:Nat):Option (List UInt8):=S[k]?.bind asBa
noncomputable def one:List AV→Option AV
 | [a]=>some a
 | _=>none
noncomputable def two:List AV→Option (AV×AV)
 | [a,b]=>some (a,b)
 | _=>none
noncomputable def ju7:Const→Option AV
 | .none=>some .none
 | .bool b=>some (.bool b)
 | .int i=>some (.int i)
 | .str s=>some (.str s)
 | .bytes b=>some (.bytes b)
 | _=>none
noncomputable def truthy:AV→Option Bool
 | .none=>some false
 | .bool b=>some b
 | .int i=>some (decide (i≠0))
 | _=>none
noncomputable def jU (eq:AV→AV→Option Bool):List AV→List AV→Option Bool
 | a::as,b::bs=>match eq a b,jU eq as bs with
  | some x,some y=>some (x&&y)
  | _,_=>none
 | _,_=>some true
noncomputable def wM (eq:AV→AV→Option Bool) (fs:List (AV×AV)):List (AV×AV)→Option Bool
 | []=>some true
 | (k,v)::r=>match j6 k fs with
  | none=>some false
  | some u=>match eq v u with
   | some true=>wM eq fs r
   | x=>x
noncomputable def eqA (S:St) (eq:AV→AV→Option Bool) (a b:AV):Option Bool:=match a with
 | .none=>match b with
  | .none=>some true
  | .tup _=>some false
  | _=>none
 | .bool x=>(jtD b).map fun y=>x==y
 | .int x=>(vJ b).map fun y=>decide (x=y)
 | .str x=>(asStr b).map fun y=>decide (x=y)
 | .bytes _=>none
 | .tup xs=>match b with
  | .none=>some false
  | .tup ys=>(jU eq xs ys).map fun r=>r&&decide (xs.length=ys.length)
  | _=>none
 | .ref j=>(u0 b).bind fun k=>(listAt S j).bind fun xs=>(listAt S k).bind fun ys=>if xs.length=ys.length then jU eq xs ys else some false
 | .fn _=>none
noncomputable def eqV (S:St):Nat→AV→AV→Option Bool
 | 0=>fun _ _=>none
 | n+1=>eqA S (eqV S n)
noncomputable def eqD (S:St) (a b:AV):Option (Option Bool):=(u0 a).bind fun j=>(u0 b).bind fun k=>(dictAt S j).bind fun d=>(dictAt S k).map fun e=>
 if d.2.1.length=e.2.1.length then (if d.1=e.1∨d.2.1=[] then wM (eqV S 6) e.2.1 d.2.1 else none) else some false
noncomputable def xC (S:St) (a b:AV):Option Bool:=(eqD S a b).getD (eqV S 6 a b)
noncomputable def mY (S:St) (x:AV):List AV→Option Bool
 | []=>some false
 | y::r=>match eqV S 6 y x,mY S x r with
  | some a,some b=>some (a||b)
  | _,_=>none
noncomputable def inR (S:St) (x:AV) (o:AO):Option Bool:=match o with
 | .list ys=>mY S x ys
 | .dict fl es _=>if j7 x≠0∧(fl=0∨fl=j7 x) then some (j6 x es).isSome else none
 | .inst _ _=>none
 | .ba _=>none
noncomputable def inV (S:St) (x y:AV):Option Bool:=match y with
 | .tup ys=>mY S x ys
 | .ref k=>S[k]?.bind (inR S x)
 | _=>none
noncomputable def cmpI (p:Int→Int→Bool) (a b:AV):Option Bool:=(vJ a).bind fun x=>(vJ b).map fun y=>p x y
noncomputable def jO (S:St) (op:CmpOp) (a b:AV):Option Bool:=match op with
 | .Eq=>xC S a b
 | .NotEq=>(xC S a b).map (!·)
 | .Lt=>cmpI (fun x y=>decide (x < y)) a b
 | .LtE=>cmpI (fun x y=>decide (x≤y)) a b
 | .Gt=>cmpI (fun x y=>decide (x > y)) a b
 | .GtE=>cmpI (fun x y=>decide (x≥y)) a b
 | .Is=>(joK b).map fun _=>decide (a = .none)
 | .IsNot=>(joK b).map fun _=>decide (a≠.none)
 | .In=>inV S a b
 | .NotIn=>(inV S a b).map (!·)
noncomputable def jdU (op:Operator) (x y:Int):Option Int:=match op with
 | .Add=>some (x+y)
 | .Sub=>some (x - y)
 | .Mult=>if x.natAbs < 2^64∨y.natAbs < 2^64 then some (x*y) else none
 | .FloorDiv=>if y=0∨2^64≤y.natAbs then none else some (Int.fdiv x y)
 | .Mod=>if y=0 then none else some (Int.fmod x y)
 | .Pow=>if 0≤y∧y≤200∧x=2 then some (x^y.toNat) else none
 | .LShift=>if 0≤y∧y≤64∧x.natAbs < 2^64 then some (x*2^y.toNat) else none
 | .RShift=>if 0≤y∧y≤64 then some (Int.fdiv x (2^y.toNat)) else none
 | .BitAnd=>some (Builtin.bitAnd x y)
 | .BitOr=>some (Builtin.bitOr x y)
 | _=>none
noncomputable def jC:Nat:=100000
noncomputable def jsK {α:Type} (op:Operator) (x:Option α):Option α:=match op with
 | .Add=>x
 | _=>none
noncomputable def jtQ {α:Type} (op:Operator) (x:Option α):Option α:=match op with
 | .Mult=>x
 | _=>none
noncomputable def zK (op:Operator) (a b:AV) (S:St):Option (AV×St):=match a with
 | .int x=>(vJ b).bind fun y=>(jdU op x y).map fun i=>(.int i,S)
 | .tup xs=>(asTup b).bind fun ys=>jsK op (if xs.length+ys.length≤jC then some (.tup (xs++ys),S) else none)
 | .ref j=>match b with
  | .ref k=>jsK op ((listAt S j).bind fun xs=>(listAt S k).bind fun ys=>if xs.length+ys.length≤jC then some (.ref S.length,S++[.list (xs++ys)]) else none)
  | .int n=>jtQ op ((listAt S j).bind fun xs=>(one xs).bind fun x=>if 0≤n∧n≤1000 then some (.ref S.length,S++[.list (List.replicate n.toNat x)]) else none)
  | _=>none
 | _=>none
noncomputable def unV (op:UnaryOp) (a:AV):Option AV:=match op with
 | .Not=>(truthy a).map fun b=>.bool (!b)
 | .USub=>(vJ a).map fun i=>.int (-i)
 | _=>none
noncomputable def itemAt (xs:List AV) (i:Int):Option AV:=if 0≤i∧i < 1000000 then xs[i.toNat]? else none
noncomputable def byteAt (xs:List UInt8) (i:Int):Option AV:=if 0≤i∧i < 1000000∧xs.length≤jC then (xs[i.toNat]?).map fun b=>.int b.toNat else none
noncomputable def subR (i:AV) (o:AO):Option AV:=match o with
 | .list xs=>(vJ i).bind (itemAt xs)
 | .dict fl es _=>if j7 i≠0∧fl=j7 i then j6 i es else none
 | .inst _ _=>none
 | .ba b=>(vJ i).bind (byteAt b)
noncomputable def k9 (S:St) (o i:AV):Option AV:=match o with
 | .tup xs=>(vJ i).bind (itemAt xs)
 | .bytes b=>(vJ i).bind (byteAt b)
 | .ref k=>S[k]?.bind (subR i)
 | _=>none
noncomputable def cut {α:Type} (xs:List α) (lo hi:Option Int):Option (List α):=
 match lo.getD 0,hi.getD xs.length with
 | a,b=>if 0≤a∧a < 1000000∧0≤b∧b < 1000000∧xs.length≤jC then some ((xs.take b.toNat).drop a.toNat) else none
noncomputable def uX (S:St) (o:AV) (lo hi:Option Int):Option (AV×St):=match o with
 | .tup xs=>(cut xs lo hi).map fun ys=>(.tup ys,S)
 | .bytes b=>(cut b lo hi).map fun ys=>(.bytes ys,S)
 | .ref k=>(baAt S k).bind fun b=>(cut b lo hi).map fun ys=>(.ref S.length,S++[.ba ys])
 | _=>none
noncomputable def kG (S:St) (o:AV) (a:Str):Option AV:=(u0 o).bind fun k=>(jiV S k).bind fun p=>j6 a p.2
noncomputable def y6 (S:St) (o:AV) (a:Str) (v:AV):Option St:=(u0 o).bind fun k=>(jiV S k).bind fun p=>if p.2.length≤500 then some (S.set k (.inst p.1 (jA a v p.2))) else none
noncomputable def qM (fl:Nat) (es:List (AV×AV)) (ep:Nat) (k v:AV):Option AO:=
 if j7 k≠0∧(fl=0∨fl=j7 k)∧es.length≤jC then
  some (.dict (j7 k) (jA k v es) (if (j6 k es).isSome then ep else ep+1)) else none
noncomputable def qW (S:St) (o i v:AV):Option St:=(u0 o).bind fun k=>(dictAt S k).bind fun d=>(qM d.1 d.2.1 d.2.2 i v).map fun d=>S.set k d
noncomputable def xV (S:St) (o i:AV):Option St:=(u0 o).bind fun k=>(dictAt S k).bind fun d=>
 if j7 i≠0∧d.1=j7 i∧(j6 i d.2.1).isSome∧d.2.1.length≤jC then some (S.set k (.dict d.1 (yS i d.2.1) (d.2.2+1))) else none
noncomputable def lenR (o:AO):Option Nat:=match o with
 | .list xs=>some xs.length
 | .dict _ es _=>some es.length
 | .inst _ _=>none
 | .ba b=>some b.length
noncomputable def lenN (S:St) (o:AV):Option Nat:=match o with
 | .tup xs=>some xs.length
 | .bytes b=>some b.length
 | .ref k=>S[k]?.bind lenR
 | _=>none
noncomputable def lenV (S:St) (o:AV):Option Int:=(lenN S o).bind fun n=>if n≤jC then some (n:Int) else none
noncomputable def intsOf:List AV→Option (List Int)
 | []=>some []
 | .int i::r=>(intsOf r).map (i :: ·)
 | _=>none
noncomputable def strsOf:List AV→Option (List Str)
 | []=>some []
 | .str i::r=>(strsOf r).map (i :: ·)
 | _=>none
noncomputable def u6:List AV→Option (List UInt8)
 | []=>some []
 | .int i::r=>if 0≤i∧i < 256 then (u6 r).map (UInt8.ofNat i.toNat :: ·) else none
 | _=>none
noncomputable def v8 {α:Type} (lt:α→α→Bool) (x:α):List α→List α
 | []=>[x]
 | y::r=>if lt x y then x::y::r else y::v8 lt x r
noncomputable def sortBy {α:Type} (lt:α→α→Bool):List α→List α
 | []=>[]
 | x::r=>v8 lt x (sortBy lt r)
noncomputable def sortI (l:List Int):List Int:=sortBy (fun a b=>decide (a < b)) l
noncomputable def strLt (a b:Str):Bool:=decide (a.cps.toList < b.cps.toList)
noncomputable def jkV (l:List Str):List Str:=sortBy strLt l
noncomputable def minI:List Int→Option Int
 | []=>none
 | x::r=>some (r.foldl (fun m y=>if y < m then y else m) x)
noncomputable def jv6 (o:AO):Option (List UInt8):=match o with
 | .list xs=>if xs.length≤1000 then u6 xs else none
 | .dict _ _ _=>none
 | .inst _ _=>none
 | .ba b=>if b.length≤1000 then some b else none
noncomputable def jvD (es:List (AV×AV)):Option (List AV):=if es.length≤60 then ((intsOf (es.map (·.1))).map fun xs=>(sortI xs).map .int).or ((strsOf (es.map (·.1))).map fun xs=>(jkV xs).map .str) else none
noncomputable def minV (S:St):List AV→Option Int
 | [o]=>(u0 o).bind fun k=>(listAt S k).bind fun xs=>(intsOf xs).bind minI
 | [x,y]=>(vJ x).bind fun a=>(vJ y).map fun b=>if b < a then b else a
 | _=>none
noncomputable def jN (n:Str) (args:List AV) (S:St):Option (AV×St):=
 if n = "len" then (one args).bind fun o=>(lenV S o).map fun i=>(.int i,S)
 else if n = "min" then (minV S args).map fun i=>(.int i,S)
 else if n = "max" then (two args).bind fun p=>(vJ p.1).bind fun a=>(vJ p.2).map fun b=>(.int (if b > a then b else a),S)
 else if n = "sorted" then (one args).bind fun o=>(u0 o).bind fun k=>(dictAt S k).bind fun d=>(jvD d.2.1).map fun l=>(.ref S.length,S++[.list l])
 else if n = "list" then (one args).bind fun o=>(u0 o).bind fun k=>(dictAt S k).bind fun d=>if d.2.1.length≤jC then some (.ref S.length,S++[.list (d.2.1.map (·.1))]) else none
 else if n = "bytes" then (one args).bind fun o=>(u0 o).bind fun k=>(S[k]?.bind jv6).map fun b=>(.bytes b,S)
 else if n = "bytearray" then (one args).bind fun o=>(jp7 o).bind fun b=>if b.length≤1000 then some (.ref S.length,S++[.ba b]) else none
 else none
noncomputable def methR (n:Str) (k:Nat) (S:St) (v:AV) (o:AO):Option (AV×St):=match o with
 | .list xs=>if n = "append"∧xs.length≤jC then some (.none,S.set k (.list (xs++[v]))) else none
 | .dict fl es _=>if n = "get"∧j7 v≠0∧(fl=0∨fl=j7 v) then some ((j6 v es).getD .none,S) else none
 | .inst _ _=>none
 | .ba _=>none
noncomputable def uJ (n:Str) (o:AV) (args:List AV) (S:St):Option (AV×St):=(u0 o).bind fun k=>(one args).bind fun v=>S[k]?.bind (methR n k S v)
noncomputable def hasR (n:Str) (o:AO):Bool:=match o with
 | .list _=>n == "append"
 | .dict _ _ _=>n == "get"
 | .inst _ _=>false
 | .ba _=>false
noncomputable def qI (n:Str) (o:AV) (S:St):Bool:=(((u0 o).bind fun k=>S[k]?).map (hasR n)).getD false
noncomputable def jF (sc:Scope) (x:Str):Option NameKind:=sc.names.lookup x
noncomputable def itemsR (k:Nat) (o:AO):Option (List AV×Option Nat):=match o with
 | .list xs=>some (xs,some k)
 | .dict _ es _=>some (es.map (·.1),some k)
 | .inst _ _=>none
 | .ba _=>none
noncomputable def itemsOf (S:St) (o:AV):Option (List AV×Option Nat):=match o with
 | .tup xs=>some (xs,none)
 | .bytes b=>some (b.map fun x=>.int x.toNat,none)
 | .ref k=>S[k]?.bind (itemsR k)
 | _=>none
noncomputable def stays (g:Option Nat) (S S':St):Bool:=match g with
 | none=>true
 | some k=>decide (S'[k]? = S[k]?)
noncomputable def yE (S:St) (o:AV):Option (List AV):=match o with
 | .tup xs=>some xs
 | .ref k=>listAt S k
 | _=>none
noncomputable abbrev Callee:=Str→List AV→St→Option (AV×St)
noncomputable def kT:List (AV×AV)→Nat→List (AV×AV)→Nat→Option AO
 | [],fl,es,ep=>some (.dict fl es ep)
 | (k,v)::r,fl,es,ep=>match qM fl es ep k v with
  | some (.dict fl' es' ep')=>kT r fl' es' ep'
  | _=>none
noncomputable def jR (n:Int):List AV:=(List.range n.toNat).map fun (i:Nat)=>AV.int (i:Int)
theorem xA {A0:Prop} {Z:Prop} {P:Prop} (h:A0∧Z) (H:A0→Z→P):P:=H h.1 h.2
theorem xAA {A0:Prop} {A1:Prop} {Z:Prop} {P:Prop} (h:A0∧A1∧Z) (H:A0→A1→Z→P):P:=H h.1 h.2.1 h.2.2
theorem xAAA {A0:Prop} {A1:Prop} {A2:Prop} {Z:Prop} {P:Prop} (h:A0∧A1∧A2∧Z) (H:A0→A1→A2→Z→P):P:=H h.1 h.2.1 h.2.2.1 h.2.2.2
theorem nQ {A0:Prop} {A1:Prop} {A2:Prop} {A3:Prop} {Z:Prop} {P:Prop} (h:A0∧A1∧A2∧A3∧Z) (H:A0→A1→A2→A3→Z→P):P:=H h.1 h.2.1 h.2.2.1 h.2.2.2.1 h.2.2.2.2
theorem xAE {T0:Type} {A0:Prop} {Z:T0→Prop} {P:Prop} (h:A0∧∃ v0:T0,Z v0) (H:A0→∀ v0:T0,Z v0→P):P:=h.2.elim fun v0 g1=>H h.1 v0 g1
theorem xAEEA {T0:Type} {T1:Type} {A0:Prop} {A3:T0→T1→Prop} {Z:T0→T1→Prop} {P:Prop} (h:A0∧∃ v0:T0,∃ v1:T1,A3 v0 v1∧Z v0 v1) (H:A0→∀ v0:T0,∀ v1:T1,A3 v0 v1→Z v0 v1→P):P:=h.2.elim fun v0 g1=>g1.elim fun v1 g2=>H h.1 v0 v1 g2.1 g2.2
theorem xE {T0:Type} {Z:T0→Prop} {P:Prop} (h:∃ v0:T0,Z v0) (H:∀ v0:T0,Z v0→P):P:=h.elim fun v0 g0=>H v0 g0
theorem xEA {T0:Type} {A1:T0→Prop} {Z:T0→Prop} {P:Prop} (h:∃ v0:T0,A1 v0∧Z v0) (H:∀ v0:T0,A1 v0→Z v0→P):P:=h.elim fun v0 g0=>H v0 g0.1 g0.2
theorem yJ {T0:Type} {A1:T0→Prop} {A2:T0→Prop} {Z:T0→Prop} {P:Prop} (h:∃ v0:T0,A1 v0∧A2 v0∧Z v0) (H:∀ v0:T0,A1 v0→A2 v0→Z v0→P):P:=h.elim fun v0 g0=>H v0 g0.1 g0.2.1 g0.2.2
theorem xEAAA {T0:Type} {A1:T0→Prop} {A2:T0→Prop} {A3:T0→Prop} {Z:T0→Prop} {P:Prop} (h:∃ v0:T0,A1 v0∧A2 v0∧A3 v0∧Z v0) (H:∀ v0:T0,A1 v0→A2 v0→A3 v0→Z v0→P):P:=h.elim fun v0 g0=>H v0 g0.1 g0.2.1 g0.2.2.1 g0.2.2.2
theorem ja4 {T0:Type} {A1:T0→Prop} {A2:T0→Prop} {A3:T0→Prop} {A4:T0→Prop} {Z:T0→Prop} {P:Prop} (h:∃ v0:T0,A1 v0∧A2 v0∧A3 v0∧A4 v0∧Z v0) (H:∀ v0:T0,A1 v0→A2 v0→A3 v0→A4 v0→Z v0→P):P:=h.elim fun v0 g0=>H v0 g0.1 g0.2.1 g0.2.2.1 g0.2.2.2.1 g0.2.2.2.2
theorem jeU {T0:Type} {T1:Type} {A1:T0→Prop} {A2:T0→Prop} {Z:T0→T1→Prop} {P:Prop} (h:∃ v0:T0,A1 v0∧A2 v0∧∃ v1:T1,Z v0 v1) (H:∀ v0:T0,A1 v0→A2 v0→∀ v1:T1,Z v0 v1→P):P:=h.elim fun v0 g0=>g0.2.2.elim fun v1 g3=>H v0 g0.1 g0.2.1 v1 g3
theorem joC {T0:Type} {T1:Type} {A1:T0→Prop} {A2:T0→Prop} {A4:T0→T1→Prop} {A5:T0→T1→Prop} {A6:T0→T1→Prop} {A7:T0→T1→Prop} {A8:T0→T1→Prop} {Z:T0→T1→Prop} {P:Prop} (h:∃ v0:T0,A1 v0∧A2 v0∧∃ v1:T1,A4 v0 v1∧A5 v0 v1∧A6 v0 v1∧A7 v0 v1∧A8 v0 v1∧Z v0 v1) (H:∀ v0:T0,A1 v0→A2 v0→∀ v1:T1,A4 v0 v1→A5 v0 v1→A6 v0 v1→A7 v0 v1→A8 v0 v1→Z v0 v1→P):P:=h.elim fun v0 g0=>g0.2.2.elim fun v1 g3=>H v0 g0.1 g0.2.1 v1 g3.1 g3.2.1 g3.2.2.1 g3.2.2.2.1 g3.2.2.2.2.1 g3.2.2.2.2.2
theorem jp3 {T0:Type} {T1:Type} {A1:T0→Prop} {A3:T0→T1→Prop} {Z:T0→T1→Prop} {P:Prop} (h:∃ v0:T0,A1 v0∧∃ v1:T1,A3 v0 v1∧Z v0 v1) (H:∀ v0:T0,A1 v0→∀ v1:T1,A3 v0 v1→Z v0 v1→P):P:=h.elim fun v0 g0=>g0.2.elim fun v1 g2=>H v0 g0.1 v1 g2.1 g2.2
theorem jeF {T0:Type} {T1:Type} {T2:Type} {A1:T0→Prop} {A4:T0→T1→T2→Prop} {A5:T0→T1→T2→Prop} {A6:T0→T1→T2→Prop} {A7:T0→T1→T2→Prop} {A8:T0→T1→T2→Prop} {Z:T0→T1→T2→Prop} {P:Prop} (h:∃ v0:T0,A1 v0∧∃ v1:T1,∃ v2:T2,A4 v0 v1 v2∧A5 v0 v1 v2∧A6 v0 v1 v2∧A7 v0 v1 v2∧A8 v0 v1 v2∧Z v0 v1 v2) (H:∀ v0:T0,A1 v0→∀ v1:T1,∀ v2:T2,A4 v0 v1 v2→A5 v0 v1 v2→A6 v0 v1 v2→A7 v0 v1 v2→A8 v0 v1 v2→Z v0 v1 v2→P):P:=h.elim fun v0 g0=>g0.2.elim fun v1 g2=>g2.elim fun v2 g3=>H v0 g0.1 v1 v2 g3.1 g3.2.1 g3.2.2.1 g3.2.2.2.1 g3.2.2.2.2.1 g3.2.2.2.2.2
theorem jwW {T0:Type} {T1:Type} {T2:Type} {T3:Type} {A1:T0→Prop} {A5:T0→T1→T2→T3→Prop} {Z:T0→T1→T2→T3→Prop} {P:Prop} (h:∃ v0:T0,A1 v0∧∃ v1:T1,∃ v2:T2,∃ v3:T3,A5 v0 v1 v2 v3∧Z v0 v1 v2 v3) (H:∀ v0:T0,A1 v0→∀ v1:T1,∀ v2:T2,∀ v3:T3,A5 v0 v1 v2 v3→Z v0 v1 v2 v3→P):P:=h.elim fun v0 g0=>g0.2.elim fun v1 g2=>g2.elim fun v2 g3=>g3.elim fun v3 g4=>H v0 g0.1 v1 v2 v3 g4.1 g4.2
theorem xEE {T0:Type} {T1:Type} {Z:T0→T1→Prop} {P:Prop} (h:∃ v0:T0,∃ v1:T1,Z v0 v1) (H:∀ v0:T0,∀ v1:T1,Z v0 v1→P):P:=h.elim fun v0 g0=>g0.elim fun v1 g1=>H v0 v1 g1
theorem kE {T0:Type} {T1:Type} {A2:T0→T1→Prop} {Z:T0→T1→Prop} {P:Prop} (h:∃ v0:T0,∃ v1:T1,A2 v0 v1∧Z v0 v1) (H:∀ v0:T0,∀ v1:T1,A2 v0 v1→Z v0 v1→P):P:=h.elim fun v0 g0=>g0.elim fun v1 g1=>H v0 v1 g1.1 g1.2
theorem jB {T0:Type} {T1:Type} {A2:T0→T1→Prop} {A3:T0→T1→Prop} {Z:T0→T1→Prop} {P:Prop} (h:∃ v0:T0,∃ v1:T1,A2 v0 v1∧A3 v0 v1∧Z v0 v1) (H:∀ v0:T0,∀ v1:T1,A2 v0 v1→A3 v0 v1→Z v0 v1→P):P:=h.elim fun v0 g0=>g0.elim fun v1 g1=>H v0 v1 g1.1 g1.2.1 g1.2.2
theorem jiS {T0:Type} {T1:Type} {A2:T0→T1→Prop} {A3:T0→T1→Prop} {A4:T0→T1→Prop} {Z:T0→T1→Prop} {P:Prop} (h:∃ v0:T0,∃ v1:T1,A2 v0 v1∧A3 v0 v1∧A4 v0 v1∧Z v0 v1) (H:∀ v0:T0,∀ v1:T1,A2 v0 v1→A3 v0 v1→A4 v0 v1→Z v0 v1→P):P:=h.elim fun v0 g0=>g0.elim fun v1 g1=>H v0 v1 g1.1 g1.2.1 g1.2.2.1 g1.2.2.2
theorem jxI {T0:Type} {T1:Type} {A2:T0→T1→Prop} {A3:T0→T1→Prop} {A4:T0→T1→Prop} {A5:T0→T1→Prop} {Z:T0→T1→Prop} {P:Prop} (h:∃ v0:T0,∃ v1:T1,A2 v0 v1∧A3 v0 v1∧A4 v0 v1∧A5 v0 v1∧Z v0 v1) (H:∀ v0:T0,∀ v1:T1,A2 v0 v1→A3 v0 v1→A4 v0 v1→A5 v0 v1→Z v0 v1→P):P:=h.elim fun v0 g0=>g0.elim fun v1 g1=>H v0 v1 g1.1 g1.2.1 g1.2.2.1 g1.2.2.2.1 g1.2.2.2.2
theorem jkD {T0:Type} {T1:Type} {A2:T0→T1→Prop} {A3:T0→T1→Prop} {A4:T0→T1→Prop} {A5:T0→T1→Prop} {A6:T0→T1→Prop} {Z:T0→T1→Prop} {P:Prop} (h:∃ v0:T0,∃ v1:T1,A2 v0 v1∧A3 v0 v1∧A4 v0 v1∧A5 v0 v1∧A6 v0 v1∧Z v0 v1) (H:∀ v0:T0,∀ v1:T1,A2 v0 v1→A3 v0 v1→A4 v0 v1→A5 v0 v1→A6 v0 v1→Z v0 v1→P):P:=h.elim fun v0 g0=>g0.elim fun v1 g1=>H v0 v1 g1.1 g1.2.1 g1.2.2.1 g1.2.2.2.1 g1.2.2.2.2.1 g1.2.2.2.2.2
theorem nY {T0:Type} {T1:Type} {T2:Type} {A3:T0→T1→T2→Prop} {Z:T0→T1→T2→Prop} {P:Prop} (h:∃ v0:T0,∃ v1:T1,∃ v2:T2,A3 v0 v1 v2∧Z v0 v1 v2) (H:∀ v0:T0,∀ v1:T1,∀ v2:T2,A3 v0 v1 v2→Z v0 v1 v2→P):P:=h.elim fun v0 g0=>g0.elim fun v1 g1=>g1.elim fun v2 g2=>H v0 v1 v2 g2.1 g2.2
theorem vQ {T0:Type} {T1:Type} {T2:Type} {A3:T0→T1→T2→Prop} {A4:T0→T1→T2→Prop} {Z:T0→T1→T2→Prop} {P:Prop} (h:∃ v0:T0,∃ v1:T1,∃ v2:T2,A3 v0 v1 v2∧A4 v0 v1 v2∧Z v0 v1 v2) (H:∀ v0:T0,∀ v1:T1,∀ v2:T2,A3 v0 v1 v2→A4 v0 v1 v2→Z v0 v1 v2→P):P:=h.elim fun v0 g0=>g0.elim fun v1 g1=>g1.elim fun v2 g2=>H v0 v1 v2 g2.1 g2.2.1 g2.2.2
theorem jhM {T0:Type} {T1:Type} {T2:Type} {A3:T0→T1→T2→Prop} {A4:T0→T1→T2→Prop} {A5:T0→T1→T2→Prop} {Z:T0→T1→T2→Prop} {P:Prop} (h:∃ v0:T0,∃ v1:T1,∃ v2:T2,A3 v0 v1 v2∧A4 v0 v1 v2∧A5 v0 v1 v2∧Z v0 v1 v2) (H:∀ v0:T0,∀ v1:T1,∀ v2:T2,A3 v0 v1 v2→A4 v0 v1 v2→A5 v0 v1 v2→Z v0 v1 v2→P):P:=h.elim fun v0 g0=>g0.elim fun v1 g1=>g1.elim fun v2 g2=>H v0 v1 v2 g2.1 g2.2.1 g2.2.2.1 g2.2.2.2
theorem jtE {T0:Type} {T1:Type} {T2:Type} {A3:T0→T1→T2→Prop} {A4:T0→T1→T2→Prop} {A5:T0→T1→T2→Prop} {A6:T0→T1→T2→Prop} {Z:T0→T1→T2→Prop} {P:Prop} (h:∃ v0:T0,∃ v1:T1,∃ v2:T2,A3 v0 v1 v2∧A4 v0 v1 v2∧A5 v0 v1 v2∧A6 v0 v1 v2∧Z v0 v1 v2) (H:∀ v0:T0,∀ v1:T1,∀ v2:T2,A3 v0 v1 v2→A4 v0 v1 v2→A5 v0 v1 v2→A6 v0 v1 v2→Z v0 v1 v2→P):P:=h.elim fun v0 g0=>g0.elim fun v1 g1=>g1.elim fun v2 g2=>H v0 v1 v2 g2.1 g2.2.1 g2.2.2.1 g2.2.2.2.1 g2.2.2.2.2
theorem xEEEE {T0:Type} {T1:Type} {T2:Type} {T3:Type} {Z:T0→T1→T2→T3→Prop} {P:Prop} (h:∃ v0:T0,∃ v1:T1,∃ v2:T2,∃ v3:T3,Z v0 v1 v2 v3) (H:∀ v0:T0,∀ v1:T1,∀ v2:T2,∀ v3:T3,Z v0 v1 v2 v3→P):P:=h.elim fun v0 g0=>g0.elim fun v1 g1=>g1.elim fun v2 g2=>g2.elim fun v3 g3=>H v0 v1 v2 v3 g3
theorem jt5 {T0:Type} {T1:Type} {T2:Type} {T3:Type} {A4:T0→T1→T2→T3→Prop} {Z:T0→T1→T2→T3→Prop} {P:Prop} (h:∃ v0:T0,∃ v1:T1,∃ v2:T2,∃ v3:T3,A4 v0 v1 v2 v3∧Z v0 v1 v2 v3) (H:∀ v0:T0,∀ v1:T1,∀ v2:T2,∀ v3:T3,A4 v0 v1 v2 v3→Z v0 v1 v2 v3→P):P:=h.elim fun v0 g0=>g0.elim fun v1 g1=>g1.elim fun v2 g2=>g2.elim fun v3 g3=>H v0 v1 v2 v3 g3.1 g3.2
theorem vO {T0:Type} {T1:Type} {T2:Type} {T3:Type} {A4:T0→T1→T2→T3→Prop} {A5:T0→T1→T2→T3→Prop} {Z:T0→T1→T2→T3→Prop} {P:Prop} (h:∃ v0:T0,∃ v1:T1,∃ v2:T2,∃ v3:T3,A4 v0 v1 v2 v3∧A5 v0 v1 v2 v3∧Z v0 v1 v2 v3) (H:∀ v0:T0,∀ v1:T1,∀ v2:T2,∀ v3:T3,A4 v0 v1 v2 v3→A5 v0 v1 v2 v3→Z v0 v1 v2 v3→P):P:=h.elim fun v0 g0=>g0.elim fun v1 g1=>g1.elim fun v2 g2=>g2.elim fun v3 g3=>H v0 v1 v2 v3 g3.1 g3.2.1 g3.2.2
theorem jL {T0:Type} {T1:Type} {T2:Type} {T3:Type} {A4:T0→T1→T2→T3→Prop} {A5:T0→T1→T2→T3→Prop} {A6:T0→T1→T2→T3→Prop} {Z:T0→T1→T2→T3→Prop} {P:Prop} (h:∃ v0:T0,∃ v1:T1,∃ v2:T2,∃ v3:T3,A4 v0 v1 v2 v3∧A5 v0 v1 v2 v3∧A6 v0 v1 v2 v3∧Z v0 v1 v2 v3) (H:∀ v0:T0,∀ v1:T1,∀ v2:T2,∀ v3:T3,A4 v0 v1 v2 v3→A5 v0 v1 v2 v3→A6 v0 v1 v2 v3→Z v0 v1 v2 v3→P):P:=h.elim fun v0 g0=>g0.elim fun v1 g1=>g1.elim fun v2 g2=>g2.elim fun v3 g3=>H v0 v1 v2 v3 g3.1 g3.2.1 g3.2.2.1 g3.2.2.2
theorem jn8 {T0:Type} {T1:Type} {T2:Type} {T3:Type} {A4:T0→T1→T2→T3→Prop} {A5:T0→T1→T2→T3→Prop} {A6:T0→T1→T2→T3→Prop} {A7:T0→T1→T2→T3→Prop} {A8:T0→T1→T2→T3→Prop} {Z:T0→T1→T2→T3→Prop} {P:Prop} (h:∃ v0:T0,∃ v1:T1,∃ v2:T2,∃ v3:T3,A4 v0 v1 v2 v3∧A5 v0 v1 v2 v3∧A6 v0 v1 v2 v3∧A7 v0 v1 v2 v3∧A8 v0 v1 v2 v3∧Z v0 v1 v2 v3) (H:∀ v0:T0,∀ v1:T1,∀ v2:T2,∀ v3:T3,A4 v0 v1 v2 v3→A5 v0 v1 v2 v3→A6 v0 v1 v2 v3→A7 v0 v1 v2 v3→A8 v0 v1 v2 v3→Z v0 v1 v2 v3→P):P:=h.elim fun v0 g0=>g0.elim fun v1 g1=>g1.elim fun v2 g2=>g2.elim fun v3 g3=>H v0 v1 v2 v3 g3.1 g3.2.1 g3.2.2.1 g3.2.2.2.1 g3.2.2.2.2.1 g3.2.2.2.2.2
theorem mB {T0:Type} {T1:Type} {T2:Type} {T3:Type} {A4:T0→T1→T2→T3→Prop} {A5:T0→T1→T2→T3→Prop} {A6:T0→T1→T2→T3→Prop} {A7:T0→T1→T2→T3→Prop} {A8:T0→T1→T2→T3→Prop} {A9:T0→T1→T2→T3→Prop} {A10:T0→T1→T2→T3→Prop} {Z:T0→T1→T2→T3→Prop} {P:Prop} (h:∃ v0:T0,∃ v1:T1,∃ v2:T2,∃ v3:T3,A4 v0 v1 v2 v3∧A5 v0 v1 v2 v3∧A6 v0 v1 v2 v3∧A7 v0 v1 v2 v3∧A8 v0 v1 v2 v3∧A9 v0 v1 v2 v3∧A10 v0 v1 v2 v3∧Z v0 v1 v2 v3) (H:∀ v0:T0,∀ v1:T1,∀ v2:T2,∀ v3:T3,A4 v0 v1 v2 v3→A5 v0 v1 v2 v3→A6 v0 v1 v2 v3→A7 v0 v1 v2 v3→A8 v0 v1 v2 v3→A9 v0 v1 v2 v3→A10 v0 v1 v2 v3→Z v0 v1 v2 v3→P):P:=h.elim fun v0 g0=>g0.elim fun v1 g1=>g1.elim fun v2 g2=>g2.elim fun v3 g3=>H v0 v1 v2 v3 g3.1 g3.2.1 g3.2.2.1 g3.2.2.2.1 g3.2.2.2.2.1 g3.2.2.2.2.2.1 g3.2.2.2.2.2.2.1 g3.2.2.2.2.2.2.2
theorem jvH {T0:Type} {T1:Type} {T2:Type} {T3:Type} {T4:Type} {Z:T0→T1→T2→T3→T4→Prop} {P:Prop} (h:∃ v0:T0,∃ v1:T1,∃ v2:T2,∃ v3:T3,∃ v4:T4,Z v0 v1 v2 v3 v4) (H:∀ v0:T0,∀ v1:T1,∀ v2:T2,∀ v3:T3,∀ v4:T4,Z v0 v1 v2 v3 v4→P):P:=h.elim fun v0 g0=>g0.elim fun v1 g1=>g1.elim fun v2 g2=>g2.elim fun v3 g3=>g3.elim fun v4 g4=>H v0 v1 v2 v3 v4 g4
theorem jeO {T0:Type} {T1:Type} {T2:Type} {T3:Type} {T4:Type} {A5:T0→T1→T2→T3→T4→Prop} {A6:T0→T1→T2→T3→T4→Prop} {A7:T0→T1→T2→T3→T4→Prop} {A8:T0→T1→T2→T3→T4→Prop} {Z:T0→T1→T2→T3→T4→Prop} {P:Prop} (h:∃ v0:T0,∃ v1:T1,∃ v2:T2,∃ v3:T3,∃ v4:T4,A5 v0 v1 v2 v3 v4∧A6 v0 v1 v2 v3 v4∧A7 v0 v1 v2 v3 v4∧A8 v0 v1 v2 v3 v4∧Z v0 v1 v2 v3 v4) (H:∀ v0:T0,∀ v1:T1,∀ v2:T2,∀ v3:T3,∀ v4:T4,A5 v0 v1 v2 v3 v4→A6 v0 v1 v2 v3 v4→A7 v0 v1 v2 v3 v4→A8 v0 v1 v2 v3 v4→Z v0 v1 v2 v3 v4→P):P:=h.elim fun v0 g0=>g0.elim fun v1 g1=>g1.elim fun v2 g2=>g2.elim fun v3 g3=>g3.elim fun v4 g4=>H v0 v1 v2 v3 v4 g4.1 g4.2.1 g4.2.2.1 g4.2.2.2.1 g4.2.2.2.2
theorem jaV {T0:Type} {T1:Type} {T2:Type} {T3:Type} {T4:Type} {A5:T0→T1→T2→T3→T4→Prop} {A6:T0→T1→T2→T3→T4→Prop} {A7:T0→T1→T2→T3→T4→Prop} {A8:T0→T1→T2→T3→T4→Prop} {A9:T0→T1→T2→T3→T4→Prop} {Z:T0→T1→T2→T3→T4→Prop} {P:Prop} (h:∃ v0:T0,∃ v1:T1,∃ v2:T2,∃ v3:T3,∃ v4:T4,A5 v0 v1 v2 v3 v4∧A6 v0 v1 v2 v3 v4∧A7 v0 v1 v2 v3 v4∧A8 v0 v1 v2 v3 v4∧A9 v0 v1 v2 v3 v4∧Z v0 v1 v2 v3 v4) (H:∀ v0:T0,∀ v1:T1,∀ v2:T2,∀ v3:T3,∀ v4:T4,A5 v0 v1 v2 v3 v4→A6 v0 v1 v2 v3 v4→A7 v0 v1 v2 v3 v4→A8 v0 v1 v2 v3 v4→A9 v0 v1 v2 v3 v4→Z v0 v1 v2 v3 v4→P):P:=h.elim fun v0 g0=>g0.elim fun v1 g1=>g1.elim fun v2 g2=>g2.elim fun v3 g3=>g3.elim fun v4 g4=>H v0 v1 v2 v3 v4 g4.1 g4.2.1 g4.2.2.1 g4.2.2.2.1 g4.2.2.2.2.1 g4.2.2.2.2.2
theorem jn2 {T0:Type} {T1:Type} {T2:Type} {T3:Type} {T4:Type} {T5:Type} {A6:T0→T1→T2→T3→T4→T5→Prop} {A7:T0→T1→T2→T3→T4→T5→Prop} {A8:T0→T1→T2→T3→T4→T5→Prop} {Z:T0→T1→T2→T3→T4→T5→Prop} {P:Prop} (h:∃ v0:T0,∃ v1:T1,∃ v2:T2,∃ v3:T3,∃ v4:T4,∃ v5:T5,A6 v0 v1 v2 v3 v4 v5∧A7 v0 v1 v2 v3 v4 v5∧A8 v0 v1 v2 v3 v4 v5∧Z v0 v1 v2 v3 v4 v5) (H:∀ v0:T0,∀ v1:T1,∀ v2:T2,∀ v3:T3,∀ v4:T4,∀ v5:T5,A6 v0 v1 v2 v3 v4 v5→A7 v0 v1 v2 v3 v4 v5→A8 v0 v1 v2 v3 v4 v5→Z v0 v1 v2 v3 v4 v5→P):P:=h.elim fun v0 g0=>g0.elim fun v1 g1=>g1.elim fun v2 g2=>g2.elim fun v3 g3=>g3.elim fun v4 g4=>g4.elim fun v5 g5=>H v0 v1 v2 v3 v4 v5 g5.1 g5.2.1 g5.2.2.1 g5.2.2.2
theorem jfE {T0:Type} {T1:Type} {T2:Type} {T3:Type} {T4:Type} {T5:Type} {T6:Type} {T7:Type} {A8:T0→T1→T2→T3→T4→T5→T6→T7→Prop} {A9:T0→T1→T2→T3→T4→T5→T6→T7→Prop} {A10:T0→T1→T2→T3→T4→T5→T6→T7→Prop} {A11:T0→T1→T2→T3→T4→T5→T6→T7→Prop} {Z:T0→T1→T2→T3→T4→T5→T6→T7→Prop} {P:Prop} (h:∃ v0:T0,∃ v1:T1,∃ v2:T2,∃ v3:T3,∃ v4:T4,∃ v5:T5,∃ v6:T6,∃ v7:T7,A8 v0 v1 v2 v3 v4 v5 v6 v7∧A9 v0 v1 v2 v3 v4 v5 v6 v7∧A10 v0 v1 v2 v3 v4 v5 v6 v7∧A11 v0 v1 v2 v3 v4 v5 v6 v7∧Z v0 v1 v2 v3 v4 v5 v6 v7) (H:∀ v0:T0,∀ v1:T1,∀ v2:T2,∀ v3:T3,∀ v4:T4,∀ v5:T5,∀ v6:T6,∀ v7:T7,A8 v0 v1 v2 v3 v4 v5 v6 v7→A9 v0 v1 v2 v3 v4 v5 v6 v7→A10 v0 v1 v2 v3 v4 v5 v6 v7→A11 v0 v1 v2 v3 v4 v5 v6 v7→Z v0 v1 v2 v3 v4 v5 v6 v7→P):P:=h.elim fun v0 g0=>g0.elim fun v1 g1=>g1.elim fun v2 g2=>g2.elim fun v3 g3=>g3.elim fun v4 g4=>g4.elim fun v5 g5=>g5.elim fun v6 g6=>g6.elim fun v7 g7=>H v0 v1 v2 v3 v4 v5 v6 v7 g7.1 g7.2.1 g7.2.2.1 g7.2.2.2.1 g7.2.2.2.2
theorem uN {G:Prop} (H:∀ P:Prop,(G→P)→P):G:=H G id
end Mine
end
set_option genInjectivity false
section
open PySem
namespace Mine.Law
inductive IE where
 | con (v:AV) | loc (i:Nat) | tup (es:List IE) | lst (es:List IE) | dct (kvs:List IE)
 | bin (op:Operator) (a b:IE) | un (op:UnaryOp) (a:IE) | bool (op:BoolOp) (es:List IE) | cmp (op:CmpOp) (a b:IE) | cmp2 (op op2:CmpOp) (a b c:IE)
 | ifx (t b o:IE) | attr (e:IE) (a:Str) | sub (e i:IE) | slice (e:IE) (lo hi:Option IE)
 | meth (e:IE) (m:Str) (as:List IE) | bltn (x:Str) (as:List IE) | call (x:Str) (as:List IE) | callv (f:IE) (as:List IE)
 | lcomp (el:IE) (x:Nat) (it:IE) (ifs:List IE) | dcomp (ke el:IE) (x:Nat) (it:IE) (ifs:List IE)
inductive IT where
 | loc (i:Nat) | locs (is:List Nat) | attr (o:IE) (a:Str) | sub (o i:IE)
inductive IS where
 | pass | ret0 | ret (e:IE) | expr (e:IE) | set (t:IT) (e:IE) | ifs (t:IE) (b o:List IS) | whil (t:IE) (o:List IS)
 | for_ (t:IT) (it:IE) (b:List IS) | forN (t:IT) (e:IE) (b:List IS) | del (o i:IE) | fail
noncomputable abbrev Ev:=List (Option AV)
noncomputable def Ev.at:Ev→Nat→Option AV
 | [],_=>none
 | x::_,0=>x
 | _::r,n+1=>Ev.at r n
noncomputable def Ev.put:Ev→Nat→AV→Ev
 | [],_,_=>[]
 | _::r,0,v=>some v::r
 | x::r,n+1,v=>x::Ev.put r n v
inductive Out where
 | nx (e:Ev) (S:St) | rt (v:AV) (S:St)
noncomputable def Out.on {γ:Type} (kn:Ev→St→γ) (kr:AV→St→γ):Out→γ
 | .nx e S=>kn e S
 | .rt v S=>kr v S
noncomputable def onO {γ:Type} (none':γ) (b:Option Bool) (x y:γ):γ:=match b with
 | some true=>x
 | some false=>y
 | none=>none'
noncomputable def onP {α:Type} (x:Option α) (k:α→Prop):Prop:=match x with
 | some v=>k v
 | none=>True
noncomputable def cutB:BoolOp→Option Bool→Option Bool
 | .And,some b=>some (!b)
 | .Or,some b=>some b
 | _,none=>none
noncomputable def jbQ (k:Nat) (u:AV) (S:St):Option St:=(listAt S k).bind fun ys=>if ys.length≤jC then some (S.set k (.list (ys++[u]))) else none
noncomputable def jmM (k:Nat) (kv u:AV) (S:St):Option St:=(dictAt S k).bind fun d=>(qM d.1 d.2.1 d.2.2 kv u).map fun d=>S.set k d
noncomputable def pairUp:List AV→List (AV×AV)
 | k::v::r=>(k,v)::pairUp r
 | _=>[]
noncomputable def jlF (k:Nat) (S0:St) (p:List AV×St):Option (AV×St):=
 if stays (some k) S0 p.2=true then (kT (pairUp p.1) 0 [] 0).bind fun d=>some (.ref k,p.2.set k d) else none
noncomputable def need (c:Bool):Option Unit:=if c=true then some () else none
theorem kA {c:Bool} (h:c=true):need c=some ():=if_pos h
noncomputable def turns (cond:AV→St→Option (Bool×St)) (put:AV→St→Option St) (g:Option Nat):List AV→St→Option St
 | [],S=>some S
 | v::r,S=>(cond v S).bind fun p=>(if p.1=true then put v p.2 else some p.2).bind fun S2=>if stays g S S2=true then turns cond put g r S2 else none
noncomputable def jkL:List Nat→List AV→Ev→Option Ev
 | [],[],env=>some env
 | i::is,v::vs,env=>jkL is vs (env.put i v)
 | _,_,_=>none
noncomputable def jnY (v:AV):Option Int:=match v with
 | .int i=>some i
 | _=>none
noncomputable def fnV (v:AV):Option Str:=match v with
 | .fn x=>some x
 | _=>none
noncomputable def jgY (v:AV):Option Unit:=match v with
 | .none=>some ()
 | _=>none
section
variable (call:Callee)
mutual
noncomputable def rE:IE→Ev→St→Option (AV×St)
 | .con v,_,S=>some (v,S)
 | .loc i,env,S=>(env.at i).map fun v=>(v,S)
 | .tup es,env,S=>(rEs es env S).map fun p=>(.tup p.1,p.2)
 | .lst es,env,S=>(rEs es env S).map fun p=>(.ref p.2.length,p.2++[.list p.1])
 | .dct kvs,env,S=>(rEs kvs env (S++[.dict 0 [] 0])).bind fun p=>jlF S.length (S++[.dict 0 [] 0]) p
 | .bin op a b,env,S=>(rE a env S).bind fun p=>(rE b env p.2).bind fun q=>zK op p.1 q.1 q.2
 | .un op a,env,S=>(rE a env S).bind fun p=>(unV op p.1).map fun v=>(v,p.2)
 | .bool op es,env,S=>jgX es op env S
 | .cmp op a b,env,S=>(rE a env S).bind fun p=>(rE b env p.2).bind fun q=>(jO q.2 op p.1 q.1).map fun t=>(.bool t,q.2)
 | .cmp2 op op2 a b c,env,S=>(rE a env S).bind fun p=>(rE b env p.2).bind fun q=>(jO q.2 op p.1 q.1).bind fun t=>onO none (some t) ((rE c env q.2).bind fun r=>(jO r.2 op2 q.1 r.1).map fun u=>(.bool u,r.2)) (some (.bool false,q.2))
 | .ifx t b o,env,S=>(rE t env S).bind fun p=>onO none (truthy p.1) (rE b env p.2) (rE o env p.2)
 | .attr e a,env,S=>(rE e env S).bind fun p=>(kG p.2 p.1 a).map fun u=>(u,p.2)
 | .sub e i,env,S=>(rE e env S).bind fun p=>(rE i env p.2).bind fun q=>(k9 q.2 p.1 q.1).map fun u=>(u,q.2)
 | .slice e lo hi,env,S=>(rE e env S).bind fun p=>(rO lo env p.2).bind fun a=>(rO hi env a.2).bind fun b=>uX b.2 p.1 a.1 b.1
 | .meth e m as,env,S=>(rE e env S).bind fun p=>(need (qI m p.1 p.2)).bind fun _=>(rEs as env p.2).bind fun q=>uJ m p.1 q.1 q.2
 | .bltn x as,env,S=>(rEs as env S).bind fun q=>jN x q.1 q.2
 | .call x as,env,S=>(rEs as env S).bind fun q=>call x q.1 q.2
 | .callv f as,env,S=>(rE f env S).bind fun p=>(fnV p.1).bind fun x=>(rEs as env p.2).bind fun q=>call x q.1 q.2
 | .lcomp el x it ifs,env,S=>(rE it env S).bind fun p=>(itemsOf p.2 p.1).bind fun q=>(need q.2.isSome).bind fun _=>
   (turns (fun v S=>n7 ifs (env.put x v) S) (fun v S=>(rE el (env.put x v) S).bind fun u=>jbQ p.2.length u.1 u.2) q.2 q.1 (p.2++[.list []])).map fun S2=>(.ref p.2.length,S2)
 | .dcomp ke el x it ifs,env,S=>(rE it env S).bind fun p=>(itemsOf p.2 p.1).bind fun q=>(need q.2.isSome).bind fun _=>
   (turns (fun v S=>n7 ifs (env.put x v) S) (fun v S=>(rE ke (env.put x v) S).bind fun w=>(rE el (env.put x v) w.2).bind fun u=>jmM p.2.length w.1 u.1 u.2) q.2 q.1 (p.2++[.dict 0 [] 0])).map fun S2=>(.ref p.2.length,S2)
noncomputable def rEs:List IE→Ev→St→Option (List AV×St)
 | [],_,S=>some ([],S)
 | e::r,env,S=>(rE e env S).bind fun p=>(rEs r env p.2).map fun q=>(p.1::q.1,q.2)
noncomputable def jgX:List IE→BoolOp→Ev→St→Option (AV×St)
 | [],_,_,_=>none
 | e::r,op,env,S=>(rE e env S).bind fun p=>match r with
  | []=>some p
  | _::_=>onO none (cutB op (truthy p.1)) (some p) (jgX r op env p.2)
noncomputable def n7:List IE→Ev→St→Option (Bool×St)
 | [],_,S=>some (true,S)
 | e::r,env,S=>(rE e env S).bind fun p=>onO none (truthy p.1) (n7 r env p.2) (some (false,p.2))
noncomputable def rO:Option IE→Ev→St→Option (Option Int×St)
 | none,_,S=>some (none,S)
 | some e,env,S=>(rE e env S).bind fun p=>(jnY p.1).map fun i=>(some i,p.2)
end
noncomputable def bindC (t:IT) (v:AV) (env:Ev) (S:St):Option Ev:=match t with
 | .loc i=>some (env.put i v)
 | .locs is=>(yE S v).bind fun vs=>jkL is vs env
 | _=>none
noncomputable def setC (t:IT) (v:AV) (env:Ev) (S:St):Option (Ev×St):=match t with
 | .attr o a=>(rE call o env S).bind fun p=>(y6 p.2 p.1 a v).map fun S2=>(env,S2)
 | .sub o i=>(rE call o env S).bind fun p=>(rE call i env p.2).bind fun q=>(qW q.2 p.1 q.1 v).map fun S3=>(env,S3)
 | .loc i=>some (env.put i v,S)
 | .locs is=>(yE S v).bind fun vs=>(jkL is vs env).map fun e=>(e,S)
noncomputable def loop (body:Ev→St→Option Out) (t:IT) (g:Option Nat):List AV→Ev→St→Option Out
 | [],env,S=>some (.nx env S)
 | v::vs,env,S=>(bindC t v env S).bind fun e1=>(body e1 S).bind fun o=>o.on (fun e2 S2=>if stays g S S2=true then loop body t g vs e2 S2 else none) fun u S2=>some (.rt u S2)
mutual
noncomputable def rS:IS→Ev→St→Option Out
 | .pass,env,S=>some (.nx env S)
 | .fail,_,_=>none
 | .ret0,_,S=>some (.rt .none S)
 | .ret e,env,S=>(rE call e env S).map fun p=>.rt p.1 p.2
 | .expr e,env,S=>(rE call e env S).bind fun p=>(jgY p.1).map fun _=>.nx env p.2
 | .set t e,env,S=>(rE call e env S).bind fun p=>(setC call t p.1 env p.2).map fun q=>.nx q.1 q.2
 | .ifs t b o,env,S=>(rE call t env S).bind fun p=>onO none (truthy p.1) (rB b env p.2) (rB o env p.2)
 | .whil t o,env,S=>(rE call t env S).bind fun p=>onO none (truthy p.1) none (rB o env p.2)
 | .for_ t it b,env,S=>(rE call it env S).bind fun p=>(itemsOf p.2 p.1).bind fun q=>loop (fun e S=>rB b e S) t q.2 q.1 env p.2
 | .forN t e b,env,S=>(rE call e env S).bind fun p=>(jnY p.1).bind fun k=>(need (decide (0≤k∧k≤1000))).bind fun _=>loop (fun e S=>rB b e S) t none (jR k) env p.2
 | .del o i,env,S=>(rE call o env S).bind fun p=>(rE call i env p.2).bind fun q=>(xV q.2 p.1 q.1).map fun S3=>.nx env S3
noncomputable def rB:List IS→Ev→St→Option Out
 | [],env,S=>some (.nx env S)
 | s::r,env,S=>(rS s env S).bind fun o=>o.on (fun e S2=>rB r e S2) fun v S2=>some (.rt v S2)
end
mutual
noncomputable def qE:IE→Ev→St→(AV→St→Prop)→Prop
 | .con v,_,S,K=>K v S
 | .loc i,env,S,K=>onP (env.at i) fun v=>K v S
 | .tup es,env,S,K=>qEs es env S fun vs S1=>K (.tup vs) S1
 | .lst es,env,S,K=>qEs es env S fun vs S1=>K (.ref S1.length) (S1++[.list vs])
 | .dct kvs,env,S,K=>qEs kvs env (S++[.dict 0 [] 0]) fun vs S1=>∀ p,jlF S.length (S++[.dict 0 [] 0]) (vs,S1)=some p→K p.1 p.2
 | .bin op a b,env,S,K=>qE a env S fun x S1=>qE b env S1 fun y S2=>∀ p,zK op x y S2=some p→K p.1 p.2
 | .un op a,env,S,K=>qE a env S fun x S1=>onP (unV op x) fun v=>K v S1
 | .bool op es,env,S,K=>jsG es op env S K
 | .cmp op a b,env,S,K=>qE a env S fun x S1=>qE b env S1 fun y S2=>∀ t,jO S2 op x y=some t→K (.bool t) S2
 | .cmp2 op op2 a b c,env,S,K=>qE a env S fun x S1=>qE b env S1 fun y S2=>∀ t,jO S2 op x y=some t→onO True (some t) (qE c env S2 fun z S3=>∀ u,jO S3 op2 y z=some u→K (.bool u) S3) (K (.bool false) S2)
 | .ifx t b o,env,S,K=>qE t env S fun v S1=>onO True (truthy v) (qE b env S1 K) (qE o env S1 K)
 | .attr e a,env,S,K=>qE e env S fun v S1=>∀ u,kG S1 v a=some u→K u S1
 | .sub e i,env,S,K=>qE e env S fun v S1=>qE i env S1 fun j S2=>∀ u,k9 S2 v j=some u→K u S2
 | .slice e lo hi,env,S,K=>qE e env S fun v S1=>qO lo env S1 fun a S2=>qO hi env S2 fun b S3=>∀ p,uX S3 v a b=some p→K p.1 p.2
 | .meth e m as,env,S,K=>qE e env S fun v S1=>∀ u,need (qI m v S1)=some u→qEs as env S1 fun vs S2=>∀ p,uJ m v vs S2=some p→K p.1 p.2
 | .bltn x as,env,S,K=>qEs as env S fun vs S1=>∀ p,jN x vs S1=some p→K p.1 p.2
 | .call x as,env,S,K=>qEs as env S fun vs S1=>∀ p,call x vs S1=some p→K p.1 p.2
 | .callv f as,env,S,K=>qE f env S fun v S1=>onP (fnV v) fun x=>qEs as env S1 fun vs S2=>∀ p,call x vs S2=some p→K p.1 p.2
 | .lcomp el x it ifs,env,S,K=>qE it env S fun v S1=>∀ q,itemsOf S1 v=some q→∀ u,need q.2.isSome=some u→
   ∀ S2,turns (fun v S=>n7 call ifs (env.put x v) S) (fun v S=>(rE call el (env.put x v) S).bind fun u=>jbQ S1.length u.1 u.2) q.2 q.1 (S1++[.list []])=some S2→K (.ref S1.length) S2
 | .dcomp ke el x it ifs,env,S,K=>qE it env S fun v S1=>∀ q,itemsOf S1 v=some q→∀ u,need q.2.isSome=some u→
   ∀ S2,turns (fun v S=>n7 call ifs (env.put x v) S) (fun v S=>(rE call ke (env.put x v) S).bind fun w=>(rE call el (env.put x v) w.2).bind fun u=>jmM S1.length w.1 u.1 u.2) q.2 q.1 (S1++[.dict 0 [] 0])=some S2→K (.ref S1.length) S2
noncomputable def qEs:List IE→Ev→St→(List AV→St→Prop)→Prop
 | [],_,S,K=>K [] S
 | e::r,env,S,K=>qE e env S fun v S1=>qEs r env S1 fun vs S2=>K (v::vs) S2
noncomputable def jsG:List IE→BoolOp→Ev→St→(AV→St→Prop)→Prop
 | [],_,_,_,_=>True
 | e::r,op,env,S,K=>qE e env S fun v S1=>match r with
  | []=>K v S1
  | _::_=>onO True (cutB op (truthy v)) (K v S1) (jsG r op env S1 K)
noncomputable def qO:Option IE→Ev→St→(Option Int→St→Prop)→Prop
 | none,_,S,K=>K none S
 | some e,env,S,K=>qE e env S fun v S1=>onP (jnY v) fun i=>K (some i) S1
end
noncomputable def qIfs:List IE→Ev→St→(Bool→St→Prop)→Prop
 | [],_,S,K=>K true S
 | e::r,env,S,K=>qE call e env S fun v S1=>onO True (truthy v) (qIfs r env S1 K) (K false S1)
noncomputable def qT (t:IT) (v:AV) (env:Ev) (S:St) (K:Ev→St→Prop):Prop:=match t with
 | .attr o a=>qE call o env S fun w S1=>∀ S2,y6 S1 w a v=some S2→K env S2
 | .sub o i=>qE call o env S fun w S1=>qE call i env S1 fun j S2=>∀ S3,qW S2 w j v=some S3→K env S3
 | .loc i=>K (env.put i v) S
 | .locs is=>∀ vs,yE S v=some vs→onP (jkL is vs env) fun e=>K e S
mutual
noncomputable def qS:IS→Ev→St→(Ev→St→Prop)→(AV→St→Prop)→Prop
 | .pass,env,S,kn,_=>kn env S
 | .fail,_,_,_,_=>True
 | .ret0,_,S,_,kr=>kr .none S
 | .ret e,env,S,_,kr=>qE call e env S kr
 | .expr e,env,S,kn,_=>qE call e env S fun v S1=>onP (jgY v) fun _=>kn env S1
 | .set t e,env,S,kn,_=>qE call e env S fun v S1=>qT call t v env S1 kn
 | .ifs t b o,env,S,kn,kr=>qE call t env S fun v S1=>onO True (truthy v) (qB b env S1 kn kr) (qB o env S1 kn kr)
 | .whil t o,env,S,kn,kr=>qE call t env S fun v S1=>onO True (truthy v) True (qB o env S1 kn kr)
 | .for_ t it b,env,S,kn,kr=>qE call it env S fun v S1=>∀ q,itemsOf S1 v=some q→∀ o,loop (fun e S=>rB call b e S) t q.2 q.1 env S1=some o→o.on kn kr
 | .forN t e b,env,S,kn,kr=>qE call e env S fun v S1=>onP (jnY v) fun k=>∀ u,need (decide (0≤k∧k≤1000))=some u→∀ o,loop (fun e S=>rB call b e S) t none (jR k) env S1=some o→o.on kn kr
 | .del o i,env,S,kn,_=>qE call o env S fun w S1=>qE call i env S1 fun j S2=>∀ S3,xV S2 w j=some S3→kn env S3
noncomputable def qB:List IS→Ev→St→(Ev→St→Prop)→(AV→St→Prop)→Prop
 | [],env,S,kn,_=>kn env S
 | s::r,env,S,kn,kr=>qS s env S (fun env2 S2=>qB r env2 S2 kn kr) kr
end
end
theorem bnd {α β:Type} {x:Option α} {a:α} {f:α→Option β} {r:Option β} (h:x=some a) (k:f a=r):x.bind f=r:=by rw [h];exact k
theorem mpp {α β:Type} {x:Option α} {a:α} {f:α→β} {r:Option β} (h:x=some a) (k:some (f a)=r):x.map f=r:=by rw [h];exact k
theorem nC {α:Type} {x:Option α} {k:α→Prop} (h:∀ v,x=some v→k v):onP x k:=match x,h with
 | none,_=>trivial
 | some v,h=>h v rfl
theorem jiX {b:Option Bool} {x y:Prop} (h1:b=some true→x) (h2:b=some false→y):onO True b x y:=match b,h1,h2 with
 | some true,h,_=>h rfl
 | some false,_,h=>h rfl
 | none,_,_=>trivial
theorem oo_t {α:Type} {b:Option Bool} {x y r:Option α} (h:b=some true) (k:x=r):onO none b x y=r:=by rw [h];exact k
theorem oo_f {α:Type} {b:Option Bool} {x y r:Option α} (h:b=some false) (k:y=r):onO none b x y=r:=by rw [h];exact k
section
variable {call:Callee}
noncomputable abbrev GE (call:Callee) (e:IE):Prop:=∀ {env:Ev} {S:St} {K:AV→St→Prop},(∀ v S1,rE call e env S=some (v,S1)→K v S1)→qE call e env S K
mutual
theorem gE:∀ e:IE,GE call e
 | .con v,_,S,K,h=>h v S rfl
 | .loc i,_,S,K,h=>nC fun v hv=>h v S (mpp hv rfl)
 | .tup es,_,_,_,h=>gEs es fun vs S1 e=>h _ _ (mpp e rfl)
 | .lst es,_,_,_,h=>gEs es fun vs S1 e=>h _ _ (mpp e rfl)
 | .dct kvs,_,_,_,h=>gEs kvs fun vs S1 e p hp=>h _ _ (bnd e hp)
 | .bin op a b,_,_,_,h=>gE a fun x S1 e1=>gE b fun y S2 e2 p hp=>h _ _ (bnd e1 (bnd e2 hp))
 | .un op a,_,_,_,h=>gE a fun x S1 e1=>nC fun v hv=>h _ _ (bnd e1 (mpp hv rfl))
 | .bool op es,_,_,_,h=>gBool es h
 | .cmp op a b,_,_,_,h=>gE a fun x S1 e1=>gE b fun y S2 e2 t ht=>h _ _ (bnd e1 (bnd e2 (mpp ht rfl)))
 | .cmp2 op op2 a b c,_,_,_,h=>gE a fun x S1 e1=>gE b fun y S2 e2 t ht=>match t,ht with
  | true,ht=>gE c fun z S3 e3 u hu=>h _ _ (bnd e1 (bnd e2 (bnd ht (bnd e3 (mpp hu rfl)))))
  | false,ht=>h _ _ (bnd e1 (bnd e2 (bnd ht rfl)))
 | .ifx t b o,_,_,_,h=>gE t fun x S1 e1=>jiX (fun q=>gE b fun v S2 e2=>h _ _ (bnd e1 (oo_t q e2))) fun q=>gE o fun v S2 e2=>h _ _ (bnd e1 (oo_f q e2))
 | .attr e a,_,_,_,h=>gE e fun x S1 e1 u hu=>h _ _ (bnd e1 (mpp hu rfl))
 | .sub e i,_,_,_,h=>gE e fun x S1 e1=>gE i fun y S2 e2 u hu=>h _ _ (bnd e1 (bnd e2 (mpp hu rfl)))
 | .slice e lo hi,_,_,_,h=>gE e fun x S1 e1=>gO lo fun a S2 e2=>gO hi fun b S3 e3 p hp=>h _ _ (bnd e1 (bnd e2 (bnd e3 hp)))
 | .meth e m as,_,_,_,h=>gE e fun x S1 e1 u hu=>gEs as fun vs S2 e2 p hp=>h _ _ (bnd e1 (bnd hu (bnd e2 hp)))
 | .bltn x as,_,_,_,h=>gEs as fun vs S2 e2 p hp=>h _ _ (bnd e2 hp)
 | .call x as,_,_,_,h=>gEs as fun vs S2 e2 p hp=>h _ _ (bnd e2 hp)
 | .callv f as,_,_,_,h=>gE f fun v S1 e1=>nC fun x hx=>gEs as fun vs S2 e2 p hp=>h _ _ (bnd e1 (bnd hx (bnd e2 hp)))
 | .lcomp el x it ifs,_,_,_,h=>gE it fun v S1 e1 q hq u hu S2 e2=>h _ _ (bnd e1 (bnd hq (bnd hu (mpp e2 rfl))))
 | .dcomp ke el x it ifs,_,_,_,h=>gE it fun v S1 e1 q hq u hu S2 e2=>h _ _ (bnd e1 (bnd hq (bnd hu (mpp e2 rfl))))
theorem gEs:∀ (es:List IE) {env:Ev} {S:St} {K:List AV→St→Prop},(∀ vs S1,rEs call es env S=some (vs,S1)→K vs S1)→qEs call es env S K
 | [],_,_,_,h=>h _ _ rfl
 | e::r,_,_,_,h=>gE e fun x S1 e1=>gEs r fun vs S2 e2=>h _ _ (bnd e1 (mpp e2 rfl))
theorem gBool:∀ (es:List IE) {op:BoolOp} {env:Ev} {S:St} {K:AV→St→Prop},(∀ v S1,jgX call es op env S=some (v,S1)→K v S1)→jsG call es op env S K
 | [],_,_,_,_,h=>trivial
 | [e],_,_,_,_,h=>gE e fun x S1 e1=>h _ _ (bnd e1 rfl)
 | e::e2::r,_,_,_,_,h=>gE e fun x S1 e1=>jiX (fun q=>h _ _ (bnd e1 (oo_t q rfl))) fun q=>gBool (e2::r) fun v S2 e2=>h _ _ (bnd e1 (oo_f q e2))
theorem gO:∀ (o:Option IE) {env:Ev} {S:St} {K:Option Int→St→Prop},(∀ v S1,rO call o env S=some (v,S1)→K v S1)→qO call o env S K
 | none,_,_,_,h=>h _ _ rfl
 | some e,_,_,_,h=>gE e fun x S1 e1=>nC fun i hi=>h _ _ (bnd e1 (mpp hi rfl))
end
theorem gT {t:IT} {v:AV} {env:Ev} {S:St} {K:Ev→St→Prop} (h:∀ e S1,setC call t v env S=some (e,S1)→K e S1):qT call t v env S K:=match t,h with
 | .attr o a,h=>gE o fun w S1 e1 S2 e2=>h _ _ (bnd e1 (mpp e2 rfl))
 | .sub o i,h=>gE o fun w S1 e1=>gE i fun j S2 e2 S3 e3=>h _ _ (bnd e1 (bnd e2 (mpp e3 rfl)))
 | .loc i,h=>h _ _ rfl
 | .locs is,h=>fun vs hvs=>nC fun e he=>h _ _ (bnd hvs (mpp he rfl))
mutual
theorem gS:∀ (s:IS) {env:Ev} {S:St} {kn:Ev→St→Prop} {kr:AV→St→Prop},(∀ o,rS call s env S=some o→o.on kn kr)→qS call s env S kn kr
 | .pass,_,_,_,_,h=>h _ rfl
 | .fail,_,_,_,_,_=>trivial
 | .ret0,_,_,_,_,h=>h _ rfl
 | .ret e,_,_,_,_,h=>gE e fun v S1 e1=>h (.rt v S1) (mpp e1 rfl)
 | .expr e,env,_,_,_,h=>gE e fun v S1 e1=>nC fun u hu=>h (.nx env S1) (bnd e1 (mpp hu rfl))
 | .set t e,_,_,_,_,h=>gE e fun v S1 e1=>gT fun e' S2 e2=>h (.nx e' S2) (bnd e1 (mpp e2 rfl))
 | .ifs t b o,_,_,_,_,h=>gE t fun v S1 e1=>jiX (fun q=>gB b fun o' e2=>h o' (bnd e1 (oo_t q e2))) fun q=>gB o fun o' e2=>h o' (bnd e1 (oo_f q e2))
 | .whil t o,_,_,_,_,h=>gE t fun v S1 e1=>jiX (fun _=>trivial) fun q=>gB o fun o' e2=>h o' (bnd e1 (oo_f q e2))
 | .for_ t it b,_,_,_,_,h=>gE it fun v S1 e1 q hq o e2=>h o (bnd e1 (bnd hq e2))
 | .forN t e b,_,_,_,_,h=>gE e fun v S1 e1=>nC fun k hk u hu o e2=>h o (bnd e1 (bnd hk (bnd hu e2)))
 | .del o i,env,_,_,_,h=>gE o fun w S1 e1=>gE i fun j S2 e2 S3 e3=>h (.nx env S3) (bnd e1 (bnd e2 (mpp e3 rfl)))
theorem gB:∀ (b:List IS) {env:Ev} {S:St} {kn:Ev→St→Prop} {kr:AV→St→Prop},(∀ o,rB call b env S=some o→o.on kn kr)→qB call b env S kn kr
 | [],_,_,_,_,h=>h _ rfl
 | s::r,_,_,_,_,h=>gS s fun o e1=>match o,e1 with
  | .nx e S2,e1=>gB r fun o' e2=>h o' (bnd e1 e2)
  | .rt v S2,e1=>h (.rt v S2) (bnd e1 rfl)
end
theorem blk (call:Callee) (b:List IS) (env:Ev) (S:St):qB call b env S (fun e S1=>rB call b env S=some (.nx e S1)) fun v S1=>rB call b env S=some (.rt v S1):=
 gB b fun o h=>match o,h with
  | .nx _ _,h=>h
  | .rt _ _,h=>h
end
theorem exq (call:Callee) (e:IE) (env:Ev) (S:St):qE call e env S fun v S1=>rE call e env S=some (v,S1):=gE e fun _ _ h=>h
end Mine.Law
end
section
open PySem
namespace Mine.Law
noncomputable def ja7:List Nat→List Nat→Bool
 | [],[]=>true
 | a::as,b::bs=>match Nat.beq a b with
  | true=>ja7 as bs
  | false=>false
 | _,_=>false
theorem jgK:∀ {a b},ja7 a b=true→a=b
 | [],[],_=>rfl
 | a::as,b::bs,h=>by
  revert h
  show (match Nat.beq a b with | true=>ja7 as bs | false=>false)=true→_
  cases e:Nat.beq a b with
  | true=>exact fun h=>by rw [Nat.eq_of_beq_eq_true e,jgK h]
  | false=>exact fun h=>nomatch h
theorem jb0:∀ a,ja7 a a=true
 | []=>rfl
 | a::as=>by
  show (match Nat.beq a a with | true=>ja7 as as | false=>false)=true
  rw [Nat.beq_refl];exact jb0 as
noncomputable def sq (a b:Str):Bool:=ja7 a.cps.toList b.cps.toList
theorem sq_of {a b:Str} (h:sq a b=true):a=b:=match a,b,h with
 | ⟨⟨a⟩⟩,⟨⟨b⟩⟩,h=>congrArg (fun l=>Str.mk (Array.mk l)) (jgK h)
theorem sq_ne {a b:Str} (h:sq a b=false):a≠b:=fun e=>by rw [e,sq,jb0] at h;exact Bool.noConfusion h
structure Row where
 x:Str
 isC:Bool
 ps:List Str
 ex:List Str
 ds:List AV
 is:List IS
noncomputable abbrev Row.full (r:Row) (as:List AV):List AV:=as++r.ds.drop (as.length+r.ds.length - r.ps.length)
noncomputable abbrev Row.env (r:Row) (as:List AV):Ev:=(r.full as).map some++List.replicate r.ex.length none
noncomputable def Row.okN (r:Row) (n:Nat):Bool:=Nat.ble n r.ps.length&&Nat.ble r.ps.length (n+r.ds.length)
noncomputable def zN (x:Str):List Row→Option Row
 | []=>none
 | r::l=>match sq r.x x with
  | true=>some r
  | false=>zN x l
noncomputable def yN {α:Type} (c:Bool) (x:Option α):Option α:=match c with
 | true=>x
 | false=>none
noncomputable def j1 (t:List Row):Nat→Callee
 | 0,_,_,_=>none
 | d+1,x,as,S=>(zN x t).bind fun r=>match r.isC with
  | false=>yN (r.okN as.length) ((rB (j1 t d) r.is (r.env as) S).map fun o=>o.on (fun _ S1=>(.none,S1)) fun v S1=>(v,S1))
  | true=>yN (r.okN (as.length+1)) ((rB (j1 t d) r.is (r.env (.ref S.length::as)) (S++[.inst r.x []])).bind fun o=>o.on (fun _ S1=>some (.ref S.length,S1)) fun v S1=>(jgY v).map fun _=>(.ref S.length,S1))
theorem y7 {t:List Row} {r:Row} (h:zN r.x t=some r) (hc:r.isC=false) {as:List AV} (hn:r.okN as.length=true) (d:Nat) (S:St) :
  qB (j1 t d) r.is (r.env as) S (fun _ S1=>j1 t (d+1) r.x as S=some (.none,S1)) fun v S1=>j1 t (d+1) r.x as S=some (v,S1):=by
 have e:j1 t (d+1) r.x as S=(rB (j1 t d) r.is (r.env as) S).map fun o=>o.on (fun _ S1=>(.none,S1)) fun v S1=>(v,S1):=by
  refine bnd h ?_
  rw [hc,hn];rfl
 rw [e]
 exact gB r.is fun o h=>match o,h with
  | .nx _ _,h=>mpp h rfl
  | .rt _ _,h=>mpp h rfl
theorem jt9 {α β:Type} {f g:α→β}:∀ {l:List α},l.map f=l.map g→∀ {k:Nat} {r:α},l[k]? = some r→f r=g r
 | x::l,H,0,r,h=>by obtain rfl:=Option.some.inj h;exact (List.cons.inj H).1
 | x::l,H,k+1,r,h=>jt9 (List.cons.inj H).2 (k:=k) h
noncomputable def vU (x:Str):List Str→Bool
 | []=>false
 | y::r=>match sq x y with
  | true=>true
  | false=>vU x r
theorem yO {x:Str}:∀ {l:List Str},vU x l=true→x∈l
 | y::r,h=>by
  revert h
  show (match sq x y with | true=>true | false=>vU x r)=true→_
  cases e:sq x y with
  | true=>exact fun _=>sq_of e▸.head _
  | false=>exact fun h=>.tail _ (yO h)
theorem qY {x:Str}:∀ {l:List Str},x∈l→vU x l=true
 | y::r,h=>by
  show (match sq x y with | true=>true | false=>vU x r)=true
  cases e:sq x y with
  | true=>rfl
  | false=>exact qY ((List.mem_cons.1 h).resolve_left (sq_ne e))
noncomputable def qK:List Str→Bool
 | []=>true
 | x::r=>!vU x r&&qK r
theorem y4:∀ {l:List Str},qK l=true→l.Nodup
 | [],_=>.nil
 | x::r,h=>List.nodup_cons.2 ⟨fun q=>Bool.false_ne_true ((congrArg not (qY q)).symm.trans (j4 h).1),y4 (j4 h).2⟩
end Mine.Law
end
section
open PySem PySem.W PyProof.Rows
namespace Mine
structure Cx where
 prog:Program
 w:World
 K:Frag
 mg:Str→Option Value
 mb:Str→Option Value
 H0:Heap
noncomputable def clsNames:List Str:=["Packet","Talk","TalkBook","Expect","Side","Scene"]
noncomputable abbrev Sig:=List (Addr×Option Addr)
noncomputable def jZ (σ:Sig):List Addr:=σ.flatMap fun p=>p.1::p.2.toList
mutual
inductive VRel (c:Cx) (σ:Sig) (h:Heap):AV→Value→Prop
 | none:VRel c σ h .none .none
 | bool (b:Bool):VRel c σ h (.bool b) (.bool b)
 | int (i:Int) (t:Tok):VRel c σ h (.int i) (.int i t)
 | str (s:Str) (t:Tok):VRel c σ h (.str s) (.str s t)
 | bytes (b:List UInt8) (t:Tok):VRel c σ h (.bytes b) (.bytes b.toArray t)
 | fn (n:Str) (a:Addr):c.mg n=some (.ref a)→(∃ o,c.H0.get? a=some o)→VRel c σ h (.fn n) (.ref a)
 | ref (k:Nat) (a:Addr) (d:Option Addr):σ[k]? = some (a,d)→VRel c σ h (.ref k) (.ref a)
 | tup (xs:List AV) (a:Addr) (vs:List Value):IsTup h a vs.toArray→VRels c σ h xs vs→VRel c σ h (.tup xs) (.ref a)
inductive VRels (c:Cx) (σ:Sig) (h:Heap):List AV→List Value→Prop
 | nil:VRels c σ h [] []
 | cons {x:AV} {v:Value} {xs:List AV} {vs:List Value}:VRel c σ h x v→VRels c σ h xs vs→VRels c σ h (x::xs) (v::vs)
end
inductive ORel? (c:Cx) (σ:Sig) (h:Heap):Option AV→Option Value→Prop
 | none:ORel? c σ h none none
 | some {a:AV} {v:Value}:VRel c σ h a v→ORel? c σ h (some a) (some v)
section
variable {c:Cx} {σ:Sig} {h:Heap} {v:Value}
theorem VRel.none' (V:VRel c σ h .none v):v = .none:=by cases V;rfl
theorem VRel.bool' {b:Bool} (V:VRel c σ h (.bool b) v):v = .bool b:=by cases V;rfl
theorem VRel.int' {i:Int} (V:VRel c σ h (.int i) v):∃ t,v = .int i t:=by cases V with | int _ t=>exact ⟨t,rfl⟩
theorem VRel.str' {s:Str} (V:VRel c σ h (.str s) v):∃ t,v = .str s t:=by cases V with | str _ t=>exact ⟨t,rfl⟩
theorem VRel.bytes' {b:List UInt8} (V:VRel c σ h (.bytes b) v):∃ t,v = .bytes b.toArray t:=by cases V with | bytes _ t=>exact ⟨t,rfl⟩
theorem VRel.ref' {k:Nat} (V:VRel c σ h (.ref k) v):∃ a d,v = .ref a∧σ[k]? = some (a,d):=by cases V with | ref _ a d e=>exact ⟨a,d,rfl,e⟩
theorem VRel.tup' {xs:List AV} (V:VRel c σ h (.tup xs) v):∃ a vs,v = .ref a∧IsTup h a vs.toArray∧VRels c σ h xs vs:=by cases V with | tup _ a vs t r=>exact ⟨a,vs,rfl,t,r⟩
theorem VRels.cons' {x:AV} {xs:List AV} {vs:List Value} (V:VRels c σ h (x::xs) vs):∃ v r,vs=v::r∧VRel c σ h x v∧VRels c σ h xs r:=by cases V with | cons a b=>exact ⟨_,_,rfl,a,b⟩
theorem VRels.nil' {vs:List Value} (V:VRels c σ h [] vs):vs=[]:=by cases V;rfl
end
section
variable {c:Cx} {σ:Sig} {h:Heap}
theorem VRels.ind {P:List AV→List Value→Prop} (hn:P [] []) (hc:∀ x v xs vs,VRel c σ h x v→VRels c σ h xs vs→P xs vs→P (x::xs) (v::vs)) {xs:List AV}:∀ {vs:List Value},VRels c σ h xs vs→P xs vs:=by
 induction xs with
 | nil=>exact fun V=>V.nil'▸hn
 | cons x xs ih=>exact fun V=>V.cons'.elim fun v g=>g.elim fun r g=>g.1▸hc _ _ _ _ g.2.1 g.2.2 (ih g.2.2)
theorem VRels.length {xs:List AV} {vs:List Value} (V:VRels c σ h xs vs):xs.length=vs.length:=V.ind (P:=fun xs vs=>xs.length=vs.length) rfl fun _ _ _ _ _ _ ih=>congrArg Nat.succ ih
theorem VRels.get {xs:List AV} {vs:List Value} (V:VRels c σ h xs vs):∀ {i:Nat} {x:AV},xs[i]? = some x→∃ v,vs[i]? = some v∧VRel c σ h x v:=
 V.ind (P:=fun xs vs=>∀ {i:Nat} {x:AV},xs[i]? = some x→∃ v,vs[i]? = some v∧VRel c σ h x v) (fun {i x} e=>nomatch e) fun y v xs vs a _ ih i x e=>by
  induction i using Nat.casesOn with
  | zero=>exact ⟨v,rfl,Option.some.inj e▸a⟩
  | succ i=>exact ih e
theorem VRels.append {xs ys:List AV} {vs ws:List Value} (V:VRels c σ h xs vs) (q:VRels c σ h ys ws):VRels c σ h (xs++ys) (vs++ws):=V.ind (P:=fun xs vs=>VRels c σ h (xs++ys) (vs++ws)) q fun _ _ _ _ a _ ih=>.cons a ih
theorem VRels.take {xs:List AV} {vs:List Value} (n:Nat) (V:VRels c σ h xs vs):VRels c σ h (xs.take n) (vs.take n):=
 V.ind (P:=fun xs vs=>∀ n,VRels c σ h (xs.take n) (vs.take n)) (fun n=>by induction n using Nat.casesOn<;>exact .nil) (fun _ _ _ _ a _ ih n=>by
  induction n using Nat.casesOn with
  | zero=>exact .nil
  | succ n=>exact .cons a (ih n)) n
theorem VRels.drop {xs:List AV} {vs:List Value} (n:Nat) (V:VRels c σ h xs vs):VRels c σ h (xs.drop n) (vs.drop n):=
 V.ind (P:=fun xs vs=>∀ n,VRels c σ h (xs.drop n) (vs.drop n)) (fun n=>by induction n using Nat.casesOn<;>exact .nil) (fun _ _ _ _ a b ih n=>by
  induction n using Nat.casesOn with
  | zero=>exact .cons a b
  | succ n=>exact ih n) n
end
inductive ERels (c:Cx) (σ:Sig) (h:Heap) (hash:AV→Int):List (AV×AV)→List DictEntry→Prop
 | nil:ERels c σ h hash [] []
 | cons {k v:AV} {kv vv:Value} {es:List (AV×AV)} {ds:List DictEntry}:VRel c σ h k kv→VRel c σ h v vv→ERels c σ h hash es ds→ERels c σ h hash ((k,v)::es) (⟨hash k,kv,vv⟩::ds)
inductive FRels (c:Cx) (σ:Sig) (h:Heap):List (Str×AV)→List DictEntry→Prop
 | nil:FRels c σ h [] []
 | cons {x:Str} {t:Tok} {v:AV} {vv:Value} {fs:List (Str×AV)} {ds:List DictEntry}:VRel c σ h v vv→FRels c σ h fs ds→FRels c σ h ((x,v)::fs) (⟨PyData.keyHash c.w.params x,.str x t,vv⟩::ds)
noncomputable def yA:List AV→List Int
 | []=>[]
 | .int i::r=>i::yA r
 | _::r=>yA r
noncomputable def yV (c:Cx):AV→Int
 | .int i=>(intKind c.prog c.w).hash i
 | .str s=>(strKind c.prog c.w).hash s
 | .tup xs=>match xs with
  | [.int z,.tup ys]=>if ys.all yP then reduceHash (Builtin.Tuple.tupleHashOf [(intKind c.prog c.w).hash z,tupleKeyHash (intKind c.prog c.w) (yA ys)]) else tupleKeyHash (intKind c.prog c.w) (yA xs)
  | xs=>tupleKeyHash (intKind c.prog c.w) (yA xs)
 | _=>0
inductive ORel (c:Cx) (σ:Sig) (h:Heap):AO→Addr×Option Addr→Prop
 | list (xs:List AV) (a:Addr) (vs:List Value):PlainL h a vs.toArray→VRels c σ h xs vs→ORel c σ h (.list xs) (a,none)
 | dict (fl:Nat) (es:List (AV×AV)) (ep:Nat) (a:Addr) (ds:List DictEntry):h.get? a=some ⟨.type "dict",none,.dict ds.toArray ep,#[]⟩→ERels c σ h (yV c) es ds→
   (es.map (·.1)).Nodup→(∀ k∈es,j7 k.1≠0∧j7 k.1=fl)→ORel c σ h (.dict fl es ep) (a,none)
 | inst (cl:Str) (fs:List (Str×AV)) (x dx C:Addr) (ds:List DictEntry) (n:Nat):cl∈clsNames∧c.mg cl=some (.ref C)→h.get? x=some (instObj C dx)→h.get? dx=some (dictOf ds n)→FRels c σ h fs ds→
   (fs.map (·.1)).Nodup→ORel c σ h (.inst cl fs) (x,some dx)
 | ba (b:List UInt8) (a:Addr) (n:Nat):h.get? a=some ⟨.type "bytearray",none,.bytearray b.toArray n,#[]⟩→ORel c σ h (.ba b) (a,none)
section
variable {c:Cx} {σ:Sig} {h:Heap} {p:Addr×Option Addr}
theorem ORel.list' {xs:List AV} (x:ORel c σ h (.list xs) p):∃ a vs,p=(a,none)∧PlainL h a vs.toArray∧VRels c σ h xs vs:=by cases x with | list _ a vs u v=>exact ⟨a,vs,rfl,u,v⟩
theorem ORel.dict' {fl:Nat} {es:List (AV×AV)} {ep:Nat} (x:ORel c σ h (.dict fl es ep) p):∃ a ds,p=(a,none)∧h.get? a=some ⟨.type "dict",none,.dict ds.toArray ep,#[]⟩∧ERels c σ h (yV c) es ds∧(es.map (·.1)).Nodup∧∀ k∈es,j7 k.1≠0∧j7 k.1=fl:=by
 cases x with | dict _ _ _ a ds u v n f=>exact ⟨a,ds,rfl,u,v,n,f⟩
theorem ORel.inst' {cl:Str} {fs:List (Str×AV)} (x:ORel c σ h (.inst cl fs) p):∃ x dx C ds n,p=(x,some dx)∧(cl∈clsNames∧c.mg cl=some (.ref C))∧h.get? x=some (instObj C dx)∧h.get? dx=some (dictOf ds n)∧FRels c σ h fs ds∧(fs.map (·.1)).Nodup:=by
 cases x with | inst _ _ x dx C ds n g e1 e2 r nd=>exact ⟨x,dx,C,ds,n,rfl,g,e1,e2,r,nd⟩
theorem ORel.ba' {b:List UInt8} (x:ORel c σ h (.ba b) p):∃ a n,p=(a,none)∧h.get? a=some ⟨.type "bytearray",none,.bytearray b.toArray n,#[]⟩:=by cases x with | ba _ a n e=>exact ⟨a,n,rfl,e⟩
end
structure Rep (c:Cx) (σ:Sig) (S:St) (h:Heap):Prop where
 len:S.length=σ.length
 obj:∀ (k:Nat) (p:Addr×Option Addr) (o:AO),σ[k]? = some p→S[k]? = some o→ORel c σ h o p
 nodup:(jZ σ).Nodup
 fresh:∀ a∈jZ σ,c.H0.get? a=none
 keep:∀ b o,c.H0.get? b=some o→h.get? b=some o
theorem jd1 {σ:Sig} {k:Nat} {p:Addr×Option Addr} (e:σ[k]? = some p):p.1∈jZ σ∧∀ d,p.2=some d→d∈jZ σ:=by
 have hm:=List.mem_of_getElem? e
 refine ⟨List.mem_flatMap.mpr ⟨p,hm,.head _⟩,fun d hd=>List.mem_flatMap.mpr ⟨p,hm,?_⟩⟩
 rw [hd];simp
noncomputable def gA (o:Obj):Bool:=match o.data with
 | .seq _ _=>o.cls == .type "list"
 | .dict _ _=>o.cls == .type "dict"
 | .bytearray _ _=>true
 | .plain=>true
 | _=>false
theorem ORel.live {c:Cx} {σ:Sig} {h:Heap} {o:AO} {p:Addr×Option Addr} (x:ORel c σ h o p):∀ a,a=p.1∨p.2=some a→∃ ob,h.get? a=some ob∧gA ob=true:=by
 intro a ha
 cases x with
 | list xs a' vs hp _=>
  rcases ha with rfl | e
  ·refine jiS hp fun o n e hc _ hd=>?_
   exact ⟨o,e,by unfold gA;rw [hc,hd];rfl⟩
  ·exact j0 e
 | dict fl es ep a' ds e _ _ _=>
  rcases ha with rfl | e'
  ·exact ⟨_,e,rfl⟩
  ·exact j0 e'
 | inst cl fs x dx C ds n _ e1 e2 _ _=>
  rcases ha with rfl | e'
  ·exact ⟨_,e1,rfl⟩
  ·obtain rfl:=(Option.some.inj e').symm;exact ⟨_,e2,rfl⟩
 | ba b a' n e=>
  rcases ha with rfl | e'
  ·exact ⟨_,e,rfl⟩
  ·exact j0 e'
theorem Rep.live {c:Cx} {σ:Sig} {S:St} {h:Heap} (R:Rep c σ S h) {a:Addr} (ha:a∈jZ σ):∃ ob,h.get? a=some ob∧gA ob=true:=by
 refine xEA (List.mem_flatMap.mp ha) fun p hp ha=>?_
 refine xE (List.mem_iff_getElem?.mp hp) fun k hk=>?_
 have hl:k < S.length:=by rw [R.len];exact (List.getElem?_eq_some_iff.mp hk).1
 refine (R.obj k p S[k] hk (List.getElem?_eq_getElem hl)).live a ?_
 rcases List.mem_cons.mp ha with rfl | q
 ·exact .inl rfl
 ·right
  induction q2:p.2 using Option.casesOn with
  | none=>rw [q2] at q;simp at q
  | some d=>rw [q2] at q;simp at q;rw [q]
noncomputable def SeqOk (h':Heap) (b:Addr) (o:Obj) (n:Nat):Prop:=∃ o' its' n',h'.get? b=some o'∧o'.data = .seq its' n'∧n≤its'.size∧(its'.size=n→o'=o)
noncomputable def SeqsOk (h h':Heap) (X:List Addr):Prop:=∀ b o its n,h.get? b=some o→o.data = .seq its n→b ∉ X→SeqOk h' b o its.size
theorem SeqOk.same {h':Heap} {b:Addr} {o:Obj} {its:Array Value} {n:Nat} (e:h'.get? b=some o) (d:o.data = .seq its n):SeqOk h' b o its.size:=⟨o,its,n,e,d,Nat.le_refl _,fun _=>rfl⟩
theorem SeqsOk.ext {h h':Heap} {X:List Addr} (k:∀ b o,h.get? b=some o→b ∉ X→h'.get? b=some o):SeqsOk h h' X:=fun b o _ _ e d hx=>.same (k b o e hx) d
theorem SeqsOk.trans {h h1 h2:Heap} {X:List Addr} (x:SeqsOk h h1 X) (y:SeqsOk h1 h2 X):SeqsOk h h2 X:=fun b o its n e d hx=>
 (x b o its n e d hx).elim fun o1 g=>g.elim fun i1 g=>g.elim fun n1 g=>(y b o1 i1 n1 g.1 g.2.1 hx).elim fun o2 k=>k.elim fun i2 k=>k.elim fun n2 k=>
  ⟨o2,i2,n2,k.1,k.2.1,Nat.le_trans g.2.2.1 k.2.2.1,fun q=>(k.2.2.2 (Nat.le_antisymm (q▸g.2.2.1) k.2.2.1)).trans (g.2.2.2 (Nat.le_antisymm (q▸k.2.2.1) g.2.2.1))⟩
theorem SeqsOk.then {h h1 h2:Heap} {X:List Addr} (x:SeqsOk h h1 X) (k:∀ b,(∃ o,h.get? b=some o)→∀ o,h1.get? b=some o→h2.get? b=some o):SeqsOk h h2 X:=fun b o its n e d hx=>
 (x b o its n e d hx).elim fun o1 g=>g.elim fun i1 g=>g.elim fun n1 g=>⟨o1,i1,n1,k b ⟨o,e⟩ o1 g.1,g.2⟩
structure Step (c:Cx) (σ:Sig) (h:Heap) (σ':Sig) (h':Heap):Prop where
 grow:∃ more,σ'=σ++more
 new:∀ a∈jZ σ',a∈jZ σ∨h.get? a=none
 ext:∀ b o,h.get? b=some o→b ∉ jZ σ→h'.get? b=some o
 sq:SeqsOk h h' []
theorem Step.refl {c:Cx} {σ:Sig} {h:Heap}:Step c σ h σ h:=⟨⟨[],by simp⟩,fun _ h=>.inl h,fun _ _ e _=>e,.ext fun _ _ e _=>e⟩
theorem Step.trans {c:Cx} {σ σ' σ'':Sig} {h h' h'':Heap} (x:Step c σ h σ' h') (y:Step c σ' h' σ'' h''):Step c σ h σ'' h'':=by
 refine xE x.grow fun m q1q=>?_;obtain rfl:=q1q
 refine xE y.grow fun n q1q=>?_;obtain rfl:=q1q
 refine ⟨⟨m++n,by simp⟩,fun a ha=>?_,fun b o e hb=>?_,x.sq.trans y.sq⟩
 ·rcases y.new a ha with q | q
  ·exact x.new a q
  ·by_cases hm:a∈jZ σ
   ·exact .inl hm
   ·right
    cases e:h.get? a with
    | none=>rfl
    | some o=>
     have:=x.ext a o e hm
     rw [q] at this;exact j0 this
 ·refine y.ext b o (x.ext b o e hb) fun q=>?_
  rcases x.new b q with q | q
  ·exact hb q
  ·rw [e] at q;exact j0 q.symm
theorem jj5 {σ more:Sig} {k:Nat} {p:Addr×Option Addr} (e:σ[k]? = some p):(σ++more)[k]? = some p:=by
 rw [List.getElem?_append_left (List.getElem?_eq_some_iff.mp e).1];exact e
theorem jf6 {h:Heap} {a:Addr} {vs:Array Value} (x:IsTup h a vs) {ob:Obj} (e:h.get? a=some ob) (q:gA ob=true):False:=by
 refine jeU x fun o e' hc n hd=>?_
 rw [e] at e';obtain rfl:=Option.some.inj e'
 unfold gA at q;rw [hc,hd] at q;exact absurd (show (Value.type "tuple" == Value.type "list")=true from q) (by decide)
theorem VRel.mono {c:Cx} {σ:Sig} {h h':Heap} {more:Sig} (k:∀ a vs,IsTup h a vs→IsTup h' a vs) {x:AV} {v:Value} (V:VRel c σ h x v):VRel c (σ++more) h' x v:=
 VRel.rec (motive_1:=fun x v _=>VRel c (σ++more) h' x v) (motive_2:=fun x v _=>VRels c (σ++more) h' x v) .none .bool .int .str .bytes .fn (fun n a d e=>.ref n a d (jj5 e)) (fun xs a vs t _ ih=>.tup xs a vs (k _ _ t) ih) .nil (fun _ _ a b=>.cons a b) V
theorem VRels.mono {c:Cx} {σ:Sig} {h h':Heap} {more:Sig} (k:∀ a vs,IsTup h a vs→IsTup h' a vs) {x:List AV} {v:List Value} (V:VRels c σ h x v):VRels c (σ++more) h' x v:=
 V.ind (P:=VRels c (σ++more) h') .nil fun _ _ _ _ a _ ih=>.cons (a.mono k) ih
theorem Rep.tups {c:Cx} {σ σ':Sig} {S:St} {h h':Heap} (R:Rep c σ S h) (T:Step c σ h σ' h'):∀ a vs,IsTup h a vs→IsTup h' a vs:=by
 rintro a vs ⟨o,e,r⟩
 refine ⟨o,T.ext a o e fun q=>?_,r⟩
 refine xEA (R.live q) fun ob e' q'=>?_
 exact jf6 ⟨o,e,r⟩ e' q'
theorem VRel.step {c:Cx} {σ σ':Sig} {S:St} {h h':Heap} {x:AV} {v:Value} (V:VRel c σ h x v) (R:Rep c σ S h) (T:Step c σ h σ' h'):VRel c σ' h' x v:=by
 refine xE T.grow fun m q1q=>?_;obtain rfl:=q1q
 exact V.mono (R.tups T)
theorem VRels.step {c:Cx} {σ σ':Sig} {S:St} {h h':Heap} {x:List AV} {v:List Value} (V:VRels c σ h x v) (R:Rep c σ S h) (T:Step c σ h σ' h'):VRels c σ' h' x v:=by
 refine xE T.grow fun m q1q=>?_;obtain rfl:=q1q
 exact V.mono (R.tups T)
theorem ORel?.step {c:Cx} {σ σ':Sig} {S:St} {h h':Heap} {x:Option AV} {v:Option Value} (V:ORel? c σ h x v) (R:Rep c σ S h) (T:Step c σ h σ' h'):ORel? c σ' h' x v:=by
 cases V with
 | none=>exact .none
 | some V=>exact .some (V.step R T)
theorem ERels.mono {c:Cx} {σ:Sig} {h h':Heap} {more:Sig} {hash:AV→Int} (k:∀ a vs,IsTup h a vs→IsTup h' a vs) {es:List (AV×AV)} {ds:List DictEntry} (V:ERels c σ h hash es ds):ERels c (σ++more) h' hash es ds:=
 ERels.rec (motive:=fun es ds _=>ERels c (σ++more) h' hash es ds) .nil (fun a b _ ih=>.cons (a.mono k) (b.mono k) ih) V
theorem FRels.mono {c:Cx} {σ:Sig} {h h':Heap} {more:Sig} (k:∀ a vs,IsTup h a vs→IsTup h' a vs) {es:List (Str×AV)} {ds:List DictEntry} (V:FRels c σ h es ds):FRels c (σ++more) h' es ds:=
 FRels.rec (motive:=fun es ds _=>FRels c (σ++more) h' es ds) .nil (fun b _ ih=>.cons (b.mono k) ih) V
theorem ORel.mono {c:Cx} {σ:Sig} {h h':Heap} {more:Sig} (k:∀ a vs,IsTup h a vs→IsTup h' a vs) {o:AO} {p:Addr×Option Addr} (x:ORel c σ h o p) (hk:∀ a,a=p.1∨p.2=some a→h'.get? a=h.get? a) :
  ORel c (σ++more) h' o p:=by
 cases x with
 | list xs a vs hp hv=>
  refine kE hp fun o n e r=>?_
  exact .list xs a vs ⟨o,n,(hk a (.inl rfl)).trans e,r⟩ (hv.mono k)
 | dict fl es ep a ds e r n f=>exact .dict fl es ep a ds ((hk a (.inl rfl)).trans e) (r.mono k) n f
 | inst cl fs x dx C ds n g e1 e2 r nd=>exact .inst cl fs x dx C ds n g ((hk x (.inl rfl)).trans e1) ((hk dx (.inr rfl)).trans e2) (r.mono k) nd
 | ba b a n e=>exact .ba b a n ((hk a (.inl rfl)).trans e)
end Mine
end
section
open PySem PySem.W PyProof.Rows PySem.Calls
namespace Mine
noncomputable def jaQ (id:String):Bool:=id == "bytearray.__contains__" || id == "bytearray.__mod__" || id == "bytearray.__rmod__" || id == "_struct.pack_into.held" || id == "bytearray.find.held" || Builtin.Bytes.decodersThatHold.contains id
noncomputable def tW:Code→Bool
 | .builtin id _=>jaQ id
 | _=>false
noncomputable def Clean (Γ:Ctx):Prop:=tW Γ.code=false∧∀ x∈Γ.below,tW x.1=false
noncomputable def CleanB (Γ:Ctx):Prop:=∀ x∈Γ.below,tW x.1=false
noncomputable def wpC {α:Type} (M:Model) (A:Around) (t:Sem α) (Q:α→Shared→Prop) (E:Value→Shared→Prop) (s:Shared):Prop:=
 ∀ Γ p,Γ.In A→Clean Γ→Sem.wp M Γ t (fun a _ s'=>Q a s') (fun e _ s'=>E e s') p s
noncomputable def kQ (M:Model) (A:Around) (c:Code) (R:Result→Shared→Prop) (s:Shared):Prop:=
 ∀ Γ p,Γ.code=c→Γ.Below A→CleanB Γ→wpCode M Γ R p s
section
variable {α β:Type} {M:Model} {A:Around} {E:Value→Shared→Prop} {s:Shared} {R:Result→Shared→Prop}
theorem zL {t:Sem α} {Q:α→Shared→Prop} (h:wpAny M A t Q E s):wpC M A t Q E s:=fun Γ p hΓ _=>h Γ p hΓ
theorem jE {a:α} {Q:α→Shared→Prop} (h:Q a s):wpC M A (pure a) Q E s:=zL (wpAny_pure h)
theorem y5 {t:Sem α} {Q Q':α→Shared→Prop} {E':Value→Shared→Prop} (h:wpC M A t Q E s) (hQ:∀ a s,Q a s→Q' a s) (hE:∀ e s,E e s→E' e s):wpC M A t Q' E' s:=
 fun Γ p hΓ hC=>Sem.wp_mono M Γ t (fun a _ s=>hQ a s) (fun e _ s=>hE e s) p s (h Γ p hΓ hC)
theorem j8 {m:Sem α} {f:α→Sem β} {Q:β→Shared→Prop} (h:wpC M A m (fun a s'=>wpC M A (f a) Q E s') E s):wpC M A (m >>= f) Q E s:=fun Γ p hΓ hC=>by
 rw [Sem.wp_bind']
 exact Sem.wp_mono M Γ m (fun a p' s' h'=>h' Γ p' hΓ hC) (fun _ _ _ h'=>h') p s (h Γ p hΓ hC)
theorem j3 {m:Sem α} {f:α→Sem β} {Q:β→Shared→Prop} (h:wpAny M A m (fun a s'=>wpC M A (f a) Q E s') E s):wpC M A (m >>= f) Q E s:=j8 (zL h)
theorem jG {vs:List Value} {m:Sem α} {Q:α→Shared→Prop} (h:wpC M A m Q E s):wpC M A (holding vs m) Q E s:=fun Γ p hΓ hC=>by rw [Sem.wp_holding];exact h Γ p hΓ hC
theorem vI {pos:Pos} {Q:Unit→Shared→Prop} (h:Q () s):wpC M A (standAt pos) Q E s:=zL (wpAny_standAt h)
theorem jjH {vs:List Value} {m:Sem Value} {Q:Value→Shared→Prop} (h:wpC M A m Q E s):wpC M A (operate vs m) Q E s:=fun Γ p hΓ hC=>by rw [Sem.wp_operate];exact h Γ p hΓ hC
theorem juL {vs:List Value} {m:Sem α} {Q:α→Shared→Prop} (h:wpC M A m Q E s):wpC M A (m.keep vs) Q E s:=fun Γ p hΓ hC=>by rw [Sem.wp_keep];exact h Γ p hΓ hC
theorem Clean.enter {Γ:Ctx} {c:Code} {h:Option Value} {p:Pos} (hC:Clean Γ):CleanB (Γ.enter c h p):=by
 intro x hx
 rcases List.mem_cons.mp hx with rfl | hx
 ·exact hC.1
 ·exact hC.2 x hx
theorem CleanB.clean {Γ:Ctx} (hC:CleanB Γ) (h:tW Γ.code=false):Clean Γ:=⟨h,hC⟩
theorem tU {c:Code} {R':Result→Shared→Prop} (h:kQ M A c R s) (hR:∀ r s,R r s→R' r s):kQ M A c R' s:=
 fun Γ p hc hΓ hC=>wpCode_mono hR (h Γ p hc hΓ hC)
theorem jpK {c:Code} {h:Option Value} {Q:Flow→Shared→Prop}
  (hc:kQ M (A.mark h) c (fun r s'=>match r with | .ok f=>Q f s' | .error e=>E e s') s) (hnb:h≠some byPass:=by intro x;cases x):wpC M A (run c h) Q E s:=
 fun Γ p hΓ hC=>by rw [Sem.wp_run];exact hc _ p rfl (hΓ.enter c h p hnb) hC.enter
theorem ji7 {c:Code} {Q:Value→Shared→Prop}
  (hc:kQ M A c (fun r s'=>match r with | .ok (.ret v)=>Q v s' | .ok _=>False | .error e=>E e s') s):wpC M A (runValue c) Q E s:=fun Γ p hΓ hC=>by
 rw [Sem.wp_runValue];exact hc _ p rfl (hΓ.enter c none p (by intro x;exact j0 x)) hC.enter
theorem gJ {f:Value} {pos:List Value} {kw:List (Str×Value)} {Q:Value→Shared→Prop}
  (hc:kQ M A (.call f ⟨pos,kw⟩) (fun r s'=>match r with | .ok (.ret v)=>Q v s' | .ok _=>False | .error e=>E e s') s):wpC M A (call f pos kw) Q E s:=ji7 hc
theorem jI {c:Code} (hl:tW c=false)
  (h:wpC M (A.under c) (M.den c) (fun fin s'=>match fin with | .done f=>R (.ok f) s' | .again c'=>c'.quiet=true∧kQ M A c' R s')
   (fun e s'=>R (.error e) s') s):kQ M A c R s:=fun Γ p hc hΓ hC=>by
 rw [wpCode_iff_wp,hc]
 refine Sem.wp_mono M Γ _ (fun fin p' s' h'=>?_) (fun _ _ _ h'=>h') p s (h Γ p (hc▸hΓ.in) (hC.clean (by rw [hc];exact hl)))
 induction fin using PySem.Fin.casesOn with
 | done f=>exact h'
 | again c'=>exact ⟨h'.1,h'.2 (Γ.goto c') p' rfl (hΓ.goto c') hC⟩
theorem k7 {m:Sem α} {k:Value→Sem Unit} {Q:α→Shared→Prop} (h:wpC M A m Q (fun e s'=>wpC M A (k e) (fun _ s''=>E e s'') E s') s):wpC M A (m.onRaise k) Q E s:=fun Γ p hΓ hC=>by
 rw [Sem.wp_onRaise]
 exact Sem.wp_mono M Γ m (fun _ _ _ h'=>h') (fun e p' s' h'=>h' Γ p' hΓ hC) p s (h Γ p hΓ hC)
end
section
variable {prog:Program} {w:World} {A:Around} {E:Value→Shared→Prop} {s:Shared} {R:Result→Shared→Prop}
theorem tJ {id:String} {args:Args} {b:Builtin} (hl:jaQ id=false) (hb:entryFor table id=some b)
  (h:wpC (model prog w) (A.under (.builtin id args)) (b args)
   (fun fin s'=>match fin with | .done f=>R (.ok f) s' | .again c'=>c'.quiet=true∧kQ (model prog w) A c' R s') (fun e s'=>R (.error e) s') s) :
  kQ (model prog w) A (.builtin id args) R s:=by
 refine jI hl ?_
 show wpC _ _ (match entryFor table id with | some b=>b args | none=>unsupported ((withoutEnding? id "#data").getD id)) _ _ s
 rw [hb];exact h
theorem zW {id:String} {args:Args} {b:Builtin} (hl:jaQ id=false) (hq:(Code.builtin id args).quiet=true) (hb:entryFor table id=some b)
  (h:wpC (model prog w) A.in1 (checkBuiltinCall id args) (fun _ s₁=>wpC (model prog w) (A.under (.builtin id args)) (b args)
   (fun fin s'=>match fin with | .done f=>R (.ok f) s' | .again c'=>c'.quiet=true∧kQ (model prog w) A c' R s') (fun e s'=>R (.error e) s') s₁)
   (fun e s'=>R (.error e) s') s):kQ (model prog w) A (.call (.builtin id) args) R s:=by
 refine jI rfl ?_
 exact j8 (y5 h (fun _ s₁ h₁=>jE (And.intro hq (tJ hl hb h₁))) fun _ _ h'=>h')
theorem m9 {q:Prop} [d:Decidable q] {f:q→Bool} {g:¬ q→Bool} (hf:∀ {C:Prop},q→C) (hg:∀ h,g h=false):dite q f g=false:=match d,hg with
 | .isTrue h,_=>hf h
 | .isFalse h,hg=>hg h
theorem nW {id lit:String} (h:jaQ id=false) (hl:jaQ lit=true) {C:Prop} (e:id=lit):C:=Bool.noConfusion (h.symm.trans ((congrArg jaQ e).trans hl))
theorem or_no {a b:Bool} (h:(a||b)=false):b=false:=match a,h with
 | false,h=>h
theorem jkW {id:String} (h:jaQ id=false):Builtin.Bytes.decodersThatHold.contains id=false:=or_no h
theorem jhP {M:Model} {self:Value} {Q:Bool→Shared→Prop} (h:Q false s):wpC M A (Builtin.Bytes.exported self) Q E s:=fun Γ p hΓ hC=>by
 have e:∀ f:Code×Pos→Bool,(∀ x,tW x.1=false→f x=false)→Q (((Γ.code,p)::Γ.below).any f) s:=by
  intro f hf
  have:((Γ.code,p)::Γ.below).any f=false:=by
   rw [List.any_eq_false]
   intro x hx
   rw [Bool.not_eq_true]
   refine hf x ?_
   rcases List.mem_cons.mp hx with rfl | hx
   ·exact hC.1
   ·exact hC.2 x hx
  rw [this];exact h
 refine e _ fun x hx=>?_
 obtain ⟨cd,p⟩:=x
 induction cd using Code.casesOn with
 | builtin id args=>
  obtain ⟨pos,kw⟩:=args
  have hx:jaQ id=false:=hx
  delta Builtin.Bytes.exported.match_1
  refine m9 (q:=id = "bytearray.__contains__") (nW hx (by decide +kernel)) fun _=>m9 (q:=id = "bytearray.__mod__") (nW hx (by decide +kernel)) fun _=>m9 (q:=id = "bytearray.__rmod__") (nW hx (by decide +kernel)) fun _=>m9 (q:=id = "_struct.pack_into.held") (nW hx (by decide +kernel)) fun _=>m9 (q:=id = "bytearray.find.held") (nW hx (by decide +kernel)) fun _=>?_
  rcases pos with _ | ⟨v,r⟩
  ·rfl
  ·exact (congrArg _ (jkW hx)).trans (Bool.and_false _)
 | _=>rfl
end
end Mine
end
section
open PySem PySem.W PyProof.Rows PySem.Calls
namespace Mine
structure uD (c:Cx):Prop where
 g:c.H0.Ns mainGlobals c.mg
 b:c.H0.Ns builtinsNs c.mb
 lim:c.H0.NoLimit
 K:c.K.In c.H0
 boot:∀ x:Str,x≠"__name__"→c.mb x=bootBuiltins x
structure Room (A:Around) (n:Nat):Prop where
 hd:A.handled=none
 depth:A.depth+4*n+40 < recursionLimit
 units:A.units+40*(n+1) < cLine
noncomputable def Run (c:Cx) (A:Around) {α:Type} (S:St) (t:Sem α) (S':St) (V:Sig→Heap→α→Prop) (I:Sig→Heap→Prop):Prop:=
 ∀ (σ:Sig) (s:Shared) (Q:α→Shared→Prop) (E:Value→Shared→Prop),Rep c σ S s.heap→I σ s.heap→
  (∀ σ' h' t' a,Rep c σ' S' h'→Step c σ s.heap σ' h'→V σ' h' a→Q a { s with heap:=h',toks:=t' })→wpAny (model c.prog c.w) A t Q E s
noncomputable def Stab (c:Cx) (I:Sig→Heap→Prop):Prop:=∀ σ S h σ' h',Rep c σ S h→Step c σ h σ' h'→I σ h→I σ' h'
theorem Stab.and {c:Cx} {I J:Sig→Heap→Prop} (a:Stab c I) (b:Stab c J):Stab c (fun σ h=>I σ h∧J σ h):=fun _ _ _ _ _ R T x=>⟨a _ _ _ _ _ R T x.1,b _ _ _ _ _ R T x.2⟩
theorem Stab.triv {c:Cx} {p:Prop}:Stab c (fun _ _=>p):=fun _ _ _ _ _ _ _ x=>x
theorem Stab.vrel {c:Cx} {a:AV} {v:Value}:Stab c (fun σ h=>VRel c σ h a v):=fun _ _ _ _ _ R T x=>x.step R T
section
variable {c:Cx} {A:Around} {α β:Type} {S S1 S2:St} {I J:Sig→Heap→Prop} {V:Sig→Heap→α→Prop} {W:Sig→Heap→β→Prop}
theorem Run.bind {t:Sem α} {f:α→Sem β} (sI:Stab c I) (h1:Run c A S t S1 V I) (h2:∀ a,Run c A S1 (f a) S2 W (fun σ h=>I σ h∧V σ h a)):Run c A S (t >>= f) S2 W I:=
 fun σ s Q E R i k=>wpAny_bind (h1 σ s _ E R i fun σ1 h1 _ a R1 T1 v1=>h2 a σ1 _ Q E R1 ⟨sI _ _ _ _ _ R T1 i,v1⟩ fun σ2 h2 t2 b R2 T2 w=>k σ2 h2 t2 b R2 (T1.trans T2) w)
theorem Run.pure {a:α} (h:∀ σ h,I σ h→V σ h a):Run c A S (Pure.pure a) S V I:=
 fun σ s _ _ R i k=>wpAny_pure (k σ s.heap s.toks a R .refl (h _ _ i))
theorem Run.pre {t:Sem α} (h:Run c A S t S1 V J) (i:∀ σ h,Rep c σ S h→I σ h→J σ h):Run c A S t S1 V I:=fun σ s Q E R x k=>h σ s Q E R (i _ _ R x) k
theorem Run.post {t:Sem α} {V':Sig→Heap→α→Prop} (h:Run c A S t S1 V I) (i:∀ σ h a,Rep c σ S1 h→V σ h a→V' σ h a):Run c A S t S1 V' I:=
 fun σ s Q E R x k=>h σ s Q E R x fun σ' h' t' a R' T v=>k σ' h' t' a R' T (i _ _ _ R' v)
theorem Run.release {vs keep:List Value} {W:Sig→Heap→Unit→Prop} (h:∀ σ h,I σ h→W σ h ()):Run c A S (PySem.release vs keep) S W I:=fun σ s _ _ R i k=>PyProof.Rows.wpAny_release' (k σ s.heap s.toks () R .refl (h _ _ i))
theorem Run.by {t:Sem α} {p:Prop} (hI:∀ σ h,Rep c σ S h→I σ h→p) (h:p→Run c A S t S1 V I):Run c A S t S1 V I:=fun σ s Q E R i k=>h (hI _ _ R i) σ s Q E R i k
end
noncomputable def RunC (c:Cx) (A:Around) {α:Type} (S:St) (t:Sem α) (S':St) (V:Sig→Heap→α→Prop) (I:Sig→Heap→Prop):Prop:=
 ∀ (σ:Sig) (s:Shared) (Q:α→Shared→Prop) (E:Value→Shared→Prop),Rep c σ S s.heap→I σ s.heap→
  (∀ σ' h' t' a,Rep c σ' S' h'→Step c σ s.heap σ' h'→V σ' h' a→Q a { s with heap:=h',toks:=t' })→wpC (model c.prog c.w) A t Q E s
section
variable {c:Cx} {A:Around} {α β:Type} {S S1 S2:St} {I J:Sig→Heap→Prop} {V:Sig→Heap→α→Prop} {W:Sig→Heap→β→Prop}
theorem Run.lift {t:Sem α} (h:Run c A S t S1 V I):RunC c A S t S1 V I:=fun σ s Q E R i k=>zL (h σ s Q E R i k)
theorem RunC.bind {t:Sem α} {f:α→Sem β} (sI:Stab c I) (h1:RunC c A S t S1 V I) (h2:∀ a,RunC c A S1 (f a) S2 W (fun σ h=>I σ h∧V σ h a)):RunC c A S (t >>= f) S2 W I:=
 fun σ s Q E R i k=>j8 (h1 σ s _ E R i fun σ1 h1 _ a R1 T1 v1=>h2 a σ1 _ Q E R1 ⟨sI _ _ _ _ _ R T1 i,v1⟩ fun σ2 h2 t2 b R2 T2 w=>k σ2 h2 t2 b R2 (T1.trans T2) w)
theorem RunC.pure {a:α} (h:∀ σ h,I σ h→V σ h a):RunC c A S (Pure.pure a) S V I:=Run.lift (Run.pure h)
theorem RunC.pre {t:Sem α} (h:RunC c A S t S1 V J) (i:∀ σ h,Rep c σ S h→I σ h→J σ h):RunC c A S t S1 V I:=fun σ s Q E R x k=>h σ s Q E R (i _ _ R x) k
theorem RunC.post {t:Sem α} {V':Sig→Heap→α→Prop} (h:RunC c A S t S1 V I) (i:∀ σ h a,Rep c σ S1 h→V σ h a→V' σ h a):RunC c A S t S1 V' I:=
 fun σ s Q E R x k=>h σ s Q E R x fun σ' h' t' a R' T v=>k σ' h' t' a R' T (i _ _ _ R' v)
theorem RunC.holding {vs:List Value} {t:Sem α} (h:RunC c A S t S1 V I):RunC c A S (PySem.holding vs t) S1 V I:=fun σ s Q E R i k=>jG (h σ s Q E R i k)
theorem RunC.operate {vs:List Value} {t:Sem Value} {V:Sig→Heap→Value→Prop} (h:RunC c A S t S1 V I):RunC c A S (PySem.operate vs t) S1 V I:=fun σ s Q E R i k=>jjH (h σ s Q E R i k)
theorem RunC.release {vs keep:List Value} {W:Sig→Heap→Unit→Prop} (h:∀ σ h,I σ h→W σ h ()):RunC c A S (PySem.release vs keep) S W I:=Run.lift (Run.release h)
theorem RunC.at {p:Pos} {f:Unit→Sem β} (h:RunC c A S (f ()) S2 W I):RunC c A S (PySem.standAt p >>= f) S2 W I:=fun σ s Q E R i k=>j8 (vI (h σ s Q E R i k))
theorem RunC.by {t:Sem α} {p:Prop} (hI:∀ σ h,Rep c σ S h→I σ h→p) (h:p→RunC c A S t S1 V I):RunC c A S t S1 V I:=fun σ s Q E R i k=>h (hI _ _ R i) σ s Q E R i k
end
noncomputable def fa (env:Env):List Addr:=env.locals::env.cells.map (·.2)
structure LocRel (c:Cx) (σ:Sig) (h:Heap) (sc:Scope) (env:Env) (ρ:Loc):Prop where
 kind:env.scope.kind = .function
 glob:env.globals=mainGlobals
 blt:env.builtins=builtinsNs
 loc:∀ x,jF sc x=some .local→env.kindOf x=some .local
 cel:∀ x,jF sc x=some .cell∨jF sc x=some .free→env.kindOf x=some .cell∨env.kindOf x=some .free
 glo:∀ x,jF sc x=some .globalImplicit→env.kindOf x=some .globalImplicit
 ns:∃ m,h.Ns env.locals m∧∀ x,jF sc x=some .local→ORel? c σ h (j6 x ρ) (m x)
 cell:∀ x,jF sc x=some .cell∨jF sc x=some .free→∃ a v,env.cells.lookup x=some a∧h.IsCell a v∧ORel? c σ h (j6 x ρ) v
 live:∀ a∈fa env,∃ o,h.get? a=some o
 apart:∀ a∈fa env,a ∉ jZ σ
 above:∀ a∈fa env,c.H0.get? a=none
 nd:(fa env).Nodup
 own:∀ x,jF sc x=some .cell→env.kindOf x=some .cell
 dot:j6 (".0" : Str) ρ=none
theorem LocRel.stab {c:Cx} {sc:Scope} {env:Env} {ρ:Loc}:Stab c (fun σ h=>LocRel c σ h sc env ρ):=by
 intro σ S h σ' h' R T x
 have keep:∀ a∈fa env,∀ o,h.get? a=some o→h'.get? a=some o:=fun a ha o e=>T.ext a o e (x.apart a ha)
 refine xEA x.ns fun m hn hm=>?_
 refine ⟨x.kind,x.glob,x.blt,x.loc,x.cel,x.glo,⟨m,?_,fun y hy=>(hm y hy).step R T⟩,fun y hy=>?_,fun a ha=>?_,fun a ha q=>?_,x.above,x.nd,x.own,x.dot⟩
 ·refine nY hn fun o es ep e r=>?_
  exact ⟨o,es,ep,keep _ (.head _) _ e,r⟩
 ·refine jB (x.cell y hy) fun a v hl q3q hv=>?_;obtain ⟨o,e,d⟩:=q3q
  refine ⟨a,v,hl,⟨o,keep a ?_ o e,d⟩,hv.step R T⟩
  exact .tail _ (List.mem_map.mpr ⟨(y,a),mem_of_lookup hl,rfl⟩)
 ·refine xE (x.live a ha) fun o e=>?_
  exact ⟨o,keep a ha o e⟩
 ·rcases T.new a q with q | q
  ·exact x.apart a ha q
  ·refine xE (x.live a ha) fun o e=>?_
   replace q:=e▸q;exact j0 q.symm
noncomputable def Ev (c:Cx) (A:Around) (sc:Scope) (env:Env) (e:Expr) (ρ:Loc) (S:St) (v:AV) (S':St):Prop:=
 RunC c A S (eval e env) S' (fun σ h w=>VRel c σ h v w) (fun σ h=>LocRel c σ h sc env ρ)
theorem Run.toks {c:Cx} {A:Around} {α:Type} {S:St} {I:Sig→Heap→Prop} {V:Sig→Heap→α→Prop} {t:Sem α}
  (h:∀ σ (s:Shared) (Q:α→Shared→Prop) (E:Value→Shared→Prop),Rep c σ S s.heap→I σ s.heap→(∀ a t',V σ s.heap a→Q a { s with toks:=t' })→wpAny (model c.prog c.w) A t Q E s):Run c A S t S V I:=
 fun σ s Q E R i k=>h σ s Q E R i fun a t' v=>k σ s.heap t' a R .refl v
section
variable {c:Cx} {A:Around} {sc:Scope} {env:Env} {ρ:Loc} {S S1 S2 S3:St}
theorem jsB {k:Const} {n:Nat} {p:Pos} {v:AV} (h:ju7 k=some v):Ev c A sc env (.Constant k n p) ρ S v S:=
 Run.lift (Run.toks fun σ s Q E R L q=>match k,h with
  | .none,h=>wpAny_Constant_none (q _ s.toks (Option.some.inj h▸.none))
  | .bool _,h=>wpAny_Constant_bool (q _ s.toks (Option.some.inj h▸.bool _))
  | .int _,h=>wpAny_Constant_int (q _ _ (Option.some.inj h▸.int _ _))
  | .str _,h=>wpAny_Constant_str (q _ _ (Option.some.inj h▸.str _ _))
  | .bytes _,h=>fun _ _ _=>q _ _ (Option.some.inj h▸.bytes _ _))
noncomputable def wU (x:Str):Bool:=!(x==("__debug__" : Str))&&!(x==("__classdict__" : Str))
theorem jcL {x:Str} (h:wU x=true):(x==("__debug__" : Str))=false:=Bool.not_eq_true' _▸(j4 (b:=!(x==("__classdict__" : Str))) h).1
theorem jx3 {x:Str} (h:wU x=true):(x==("__classdict__" : Str))=false:=Bool.not_eq_true' _▸(j4 (a:=!(x==("__debug__" : Str))) h).2
theorem jvN {x:Str} {p:Pos} {v:AV} (hn:wU x=true) (hk:jF sc x=some .local) (h:j6 x ρ=some v):Ev c A sc env (.Name x p) ρ S v S:=
 Run.lift (Run.toks fun σ s Q E R L q=>by
  refine xEA L.ns fun m hn' hm=>?_
  have hr:=hm x hk
  replace hr:=h▸hr
  generalize hmx:m x=mx at hr
  cases hr with
  | some hr=>exact wpAny_Name (wpAny_loadName_local L.kind (L.loc x hk) hn' hmx (q _ s.toks hr)) (jcL hn))
theorem jpM {x:Str} {p:Pos} {v:AV} (hn:wU x=true) (hk:jF sc x=some .cell∨jF sc x=some .free) (h:j6 x ρ=some v):Ev c A sc env (.Name x p) ρ S v S:=
 Run.lift (Run.toks fun σ s Q E R L q=>by
  refine jB (L.cell x hk) fun a w hl hc hr=>?_
  replace hr:=h▸hr
  cases hr with
  | some hr=>exact wpAny_Name ((L.cel x hk).elim (fun e=>wpAny_loadName_cell L.kind e hl hc (q _ s.toks hr)) fun e=>wpAny_loadName_free L.kind e hl hc (q _ s.toks hr) (jx3 hn)) (jcL hn))
theorem jaD {x:Str} {p:Pos} {v:AV} {w:Value} (B:uD c) (hn:wU x=true) (hk:jF sc x=some .globalImplicit) (hw:c.mg x=some w) (hv:∀ σ h,VRel c σ h v w):Ev c A sc env (.Name x p) ρ S v S:=
 Run.lift (Run.toks fun σ s Q E R L q=>Name_function_global L.kind (L.glo x hk) (loadGlobal_global (mg:=c.mg) (L.glob.symm▸B.g.keeps R.keep) hw (q _ s.toks (hv _ _))) (jcL hn))
end
end Mine
end
section
open PySem PySem.W PyProof.Rows PySem.Calls
namespace Mine
theorem kN (σ τ:Sig):jZ (σ++τ)=jZ σ++jZ τ:=by simp [jZ]
theorem zF {h:Heap} (o:Obj):∀ a vs,IsTup h a vs→IsTup (h.push o) a vs:=fun a vs x=>x.push o
theorem jbG {h:Heap} {o:Obj} {a:Addr} (ha:a < h.objs.size):(h.push o).get? a=h.get? a:=by
 induction h using PySem.Heap.casesOn with
 | mk objs l=>
  simp only [Heap.push,Heap.get?,Array.getElem?_push]
  have:a≠objs.size:=Nat.ne_of_lt ha
  rw [if_neg this]
theorem Rep.lt {c:Cx} {σ:Sig} {S:St} {h:Heap} (R:Rep c σ S h) {a:Addr} (ha:a∈jZ σ):a < h.objs.size:=by
 refine xEA (R.live ha) fun o e _=>?_
 exact Heap.lt_size e
theorem Rep.sig {c:Cx} {σ:Sig} {S:St} {h:Heap} (R:Rep c σ S h) {k:Nat} {o:AO} (e:S[k]? = some o):∃ p,σ[k]? = some p∧ORel c σ h o p:=by
 have:k < σ.length:=by rw [← R.len];exact (List.getElem?_eq_some_iff.mp e).1
 exact ⟨σ[k],List.getElem?_eq_getElem this,R.obj k _ o (List.getElem?_eq_getElem this) e⟩
theorem Rep.push {c:Cx} {σ:Sig} {S:St} {h:Heap} (R:Rep c σ S h) (o:Obj):Rep c σ S (h.push o):=by
 refine ⟨R.len,fun k p ao hk ho=>?_,R.nodup,R.fresh,fun b o' e=>Heap.get?_push_of_some o (R.keep b o' e)⟩
 have x:=R.obj k p ao hk ho
 have:=x.mono (more:=[]) (zF o) fun a ha=>jbG (by
  refine xEA (x.live a ha) fun ob e _=>?_
  exact Heap.lt_size e)
 rwa [List.append_nil] at this
theorem Step.push {c:Cx} {σ:Sig} {h:Heap} (o:Obj):Step c σ h σ (h.push o):=
 ⟨⟨[],by simp⟩,fun _ h=>.inl h,fun b o' e _=>Heap.get?_push_of_some o e,.ext fun _ _ e _=>Heap.get?_push_of_some o e⟩
theorem jc9 {c:Cx} {σ:Sig} {S:St} {h:Heap} (R:Rep c σ S h) {a:Addr} (ha:h.objs.size≤a):c.H0.get? a=none:=by
 cases q:c.H0.get? a with
 | none=>rfl
 | some o=>exact absurd (Heap.lt_size (R.keep _ _ q)) (Nat.not_lt.mpr ha)
theorem Rep.alloc {c:Cx} {σ:Sig} {S:St} {h:Heap} (R:Rep c σ S h) {o:Obj} {ao:AO} (x:ORel c (σ++[(h.objs.size,none)]) (h.push o) ao (h.objs.size,none)) :
  Rep c (σ++[(h.objs.size,none)]) (S++[ao]) (h.push o):=by
 refine ⟨by simp [R.len],fun k p a hk ha=>?_,?_,?_,fun b o' e=>Heap.get?_push_of_some o (R.keep b o' e)⟩
 ·by_cases hl:k < σ.length
  ·rw [List.getElem?_append_left hl] at hk
   rw [List.getElem?_append_left (by rw [R.len];exact hl)] at ha
   have y:=R.obj k p a hk ha
   exact y.mono (zF o) fun b hb=>jbG (by
    refine xEA (y.live b hb) fun ob e _=>?_
    exact Heap.lt_size e)
  ·rw [List.getElem?_append_right (Nat.not_lt.mp hl)] at hk
   rw [List.getElem?_append_right (by rw [R.len];exact Nat.not_lt.mp hl),R.len] at ha
   cases hq:k - σ.length with
   | zero=>rw [hq] at hk ha;simp at hk ha;subst hk;subst ha;exact x
   | succ n=>rw [hq] at hk;simp at hk
 ·rw [kN,List.nodup_append]
  refine ⟨R.nodup,by simp [jZ],fun a ha b hb=>?_⟩
  simp [jZ] at hb
  rw [hb]
  exact Nat.ne_of_lt (R.lt ha)
 ·intro a ha
  rw [kN,List.mem_append] at ha
  rcases ha with ha | ha
  ·exact R.fresh a ha
  ·simp [jZ] at ha
   rw [ha]
   exact jc9 R (Nat.le_refl _)
theorem Step.alloc {c:Cx} {σ:Sig} {h:Heap} (o:Obj):Step c σ h (σ++[(h.objs.size,none)]) (h.push o):=by
 refine ⟨⟨_,rfl⟩,fun a ha=>?_,fun b o' e _=>Heap.get?_push_of_some o e,.ext fun _ _ e _=>Heap.get?_push_of_some o e⟩
 rw [kN,List.mem_append] at ha
 rcases ha with ha | ha
 ·exact .inl ha
 ·simp [jZ] at ha
  exact .inr (by rw [ha];exact Heap.get?_none_of_le (Nat.le_refl _))
theorem Rep.ext {c:Cx} {σ:Sig} {S:St} {h h':Heap} (R:Rep c σ S h) (hk:∀ b o,h.get? b=some o→h'.get? b=some o):Rep c σ S h'∧Step c σ h σ h':=by
 have T:Step c σ h σ h':=⟨⟨[],by simp⟩,fun _ h=>.inl h,fun b o e _=>hk b o e,.ext fun b o e _=>hk b o e⟩
 refine ⟨⟨R.len,fun k p ao hp ho=>?_,R.nodup,R.fresh,fun b o e=>hk b o (R.keep b o e)⟩,T⟩
 have x:=R.obj k p ao hp ho
 have:=x.mono (more:=[]) (R.tups T) fun a ha=>by
  refine xEA (x.live a ha) fun ob e _=>?_
  rw [e];exact hk a ob e
 rwa [List.append_nil] at this
theorem jiQ {h h':Heap} {d:Addr} {ob:Obj} (e0:h.get? d=some ob) (hd:∀ its n,ob.data = .seq its n→False):∀ o its n,h.get? d=some o→o.data = .seq its n→SeqOk h' d o its.size:=
 fun o its n e q=>(hd its n ((congrArg Obj.data (Option.some.inj (e0.symm.trans e))).trans q)).elim
theorem Rep.change {c:Cx} {σ:Sig} {S:St} {h h':Heap} (R:Rep c σ S h) {k:Nat} {p:Addr×Option Addr} {ao:AO} {d:Addr} (hk:σ[k]? = some p) (hd:d=p.1∨p.2=some d)
  (hs:Heap.SameBut d h h') (hq:∀ o its n,h.get? d=some o→o.data = .seq its n→SeqOk h' d o its.size) (x:(∀ a vs,IsTup h a vs→IsTup h' a vs)→ORel c σ h' ao p):Rep c σ (S.set k ao) h'∧Step c σ h σ h':=by
 have hdm:d∈jZ σ:=by
  refine xA (jd1 hk) fun a b=>?_
  rcases hd with rfl | e
  ·exact a
  ·exact b d e
 have T:Step c σ h σ h':=⟨⟨[],by simp⟩,fun _ h=>.inl h,fun b o e hb=>(hs.2 b fun q=>hb (q▸hdm)).trans e,fun b o its n e dt _=>(Nat.decEq b d).byCases (fun q=>by subst q;exact hq o its n e dt) fun q=>.same ((hs.2 b q).trans e) dt⟩
 have tk:=R.tups T
 refine ⟨⟨by simp [R.len],fun j q a hj ha=>?_,R.nodup,R.fresh,fun b o e=>(hs.2 b fun q=>?_).trans (R.keep b o e)⟩,T⟩
 ·rw [List.getElem?_set] at ha
  by_cases hjk:k=j
  ·subst hjk
   rw [if_pos rfl] at ha
   rw [hk] at hj;obtain rfl:=Option.some.inj hj
   split at ha
   ·obtain rfl:=Option.some.inj ha;exact x tk
   ·exact j0 ha
  ·rw [if_neg hjk] at ha
   have y:=R.obj j q a hj ha
   have:=y.mono (more:=[]) tk fun b hb=>hs.2 b fun e=>?_
   ·rwa [List.append_nil] at this
   ·
    subst e
    have hbm:b∈(q.1::q.2.toList):=by
     rcases hb with rfl | e
     ·exact .head _
     ·rw [e];simp
    have hdp:b∈(p.1::p.2.toList):=by
     rcases hd with rfl | e
     ·exact .head _
     ·rw [e];simp
    have nd:=R.nodup
    unfold jZ at nd
    rw [List.nodup_iff_pairwise_ne,List.pairwise_flatMap] at nd
    have pw:=List.pairwise_iff_getElem.mp nd.2
    obtain ⟨lk,ek⟩:=List.getElem?_eq_some_iff.mp hk
    obtain ⟨lj,ej⟩:=List.getElem?_eq_some_iff.mp hj
    rcases Nat.lt_or_gt_of_ne hjk with hlt | hlt
    ·have:=pw k j lk lj hlt
     rw [ek,ej] at this
     exact this b hdp b hbm rfl
    ·have:=pw j k lj lk hlt
     rw [ek,ej] at this
     exact this b hbm b hdp rfl
 ·subst q
  have:=R.fresh b hdm
  rw [e] at this;exact j0 this.symm
noncomputable def notStar:Expr→Bool
 | .Starred _ _=>false
 | _=>true
theorem jf3 {env:Env} {e:Expr} {es:List Expr} (h:notStar e=true):starEach (e::es) env=(false,eval e env)::starEach es env:=by
 induction e using PySem.Expr.casesOn<;>first | rfl | exact Bool.noConfusion h
theorem kK {env:Env} {pos:Pos}:∀ {es:List Expr},es.all notStar=true→backTo pos (starEach es env)=es.map fun e=>(false,eval e env)
 | [],_=>rfl
 | e::es,h=>(congrArg (backTo pos) (jf3 (j4 h).1)).trans (congrArg _ (kK (env:=env) (pos:=pos) (j4 (a:=notStar e) h).2))
section
variable {c:Cx} {A:Around} {sc:Scope} {env:Env} {ρ:Loc} {S S1 S2 S3:St}
theorem jf2 {M:Model} {A:Around} {E:Value→Shared→Prop} {s:Shared} {x:Sem Value} {rest:List (Bool×Sem Value)} {Q:List Value→Shared→Prop}
  (h:wpC M A x (fun v s₁=>wpC M A (spliced rest) (fun vs s₂=>Q (v::vs) s₂) E s₁) E s):wpC M A (spliced ((false,x)::rest)) Q E s:=by
 rw [spliced]
 refine j8 (y5 h (fun v s₁ h₁=>?_) fun _ _ z=>z)
 first
  | exact j8 (jG (y5 h₁ (fun vs s₂ h₂=>jE h₂) fun _ _ z=>z))
  | exact j8 (jE (j8 (jG (y5 h₁ (fun vs s₂ h₂=>jE h₂) fun _ _ z=>z))))
structure Evs (c:Cx) (A:Around) (sc:Scope) (env:Env) (es:List Expr) (ρ:Loc) (S:St) (vs:List AV) (S':St):Prop where
 run:RunC c A S (spliced (es.map fun e=>(false,eval e env))) S' (fun σ h ws=>VRels c σ h vs ws) (fun σ h=>LocRel c σ h sc env ρ)
 len:vs.length=es.length
theorem Evs.nil:Evs c A sc env [] ρ S [] S:=⟨RunC.pure fun _ _ _=>.nil,rfl⟩
theorem Evs.cons {e:Expr} {es:List Expr} {v:AV} {vs:List AV} (h1:Ev c A sc env e ρ S v S1) (h2:Evs c A sc env es ρ S1 vs S2):Evs c A sc env (e::es) ρ S (v::vs) S2:=
 ⟨fun σ s Q E R L k=>jf2 (h1 σ s _ E R L fun σ1 h1 t1 w R1 T1 v1=>h2.run σ1 _ _ E R1 (LocRel.stab _ _ _ _ _ R T1 L) fun σ2 h2 t2 ws R2 T2 v2=>k σ2 h2 t2 _ R2 (T1.trans T2) (.cons (v1.step R1 T2) v2)),congrArg (· + 1) h2.len⟩
theorem ji4 {ws:List Value} {vs:List AV} {S:St} (hl:ws.length≤sizeLine):Run c A S (newTuple ws) S (fun σ h w=>VRel c σ h (.tup vs) w) (fun σ h=>VRels c σ h vs ws):=by
 intro σ s Q E R V k
 refine wpAny_newObj_type (k σ _ s.toks _ (R.push _) (.push _) ?_) (by show ws.toArray.size≤sizeLine;exact hl)
 refine .tup vs _ ws ⟨_,Heap.get?_push_size _ rfl,rfl,0,rfl⟩ ?_
 have:=V.mono (more:=[]) (zF { cls:=.type "tuple",data:=.seq ws.toArray })
 rwa [List.append_nil] at this
theorem jjK {ws:List Value} {vs:List AV} {S:St} (hl:ws.length≤sizeLine):Run c A S (newList ws) (S++[.list vs]) (fun σ h w=>VRel c σ h (.ref S.length) w) (fun σ h=>VRels c σ h vs ws):=by
 intro σ s Q E R V k
 refine wpAny_newObj_type (k (σ++[(s.heap.objs.size,none)]) _ s.toks _ (R.alloc ?_) (.alloc _) ?_) (by show ws.toArray.size≤sizeLine;exact hl)
 ·exact .list vs _ ws ⟨_,0,Heap.get?_push_size _ rfl,rfl,rfl,rfl⟩ (V.mono (zF _))
 ·refine .ref _ _ none ?_
  rw [R.len,List.getElem?_append_right (Nat.le_refl _),Nat.sub_self];rfl
theorem jT:(1000000:Nat)≤sizeLine:=by rw [sizeLine_eq];decide
theorem jkM {es:List Expr} {vs:List AV} {ws:List Value} (h1:ws.length=vs.length) (h2:vs.length=es.length) (hl:Nat.ble es.length 1000=true):ws.length≤sizeLine:=
 Nat.le_trans (by rw [h1,h2];exact Nat.le_of_ble_eq_true hl) (Nat.le_trans (by decide) jT)
theorem jv8 {es:List Expr} {n:Nat} {p:Pos} {vs:List AV} {S':St} (hp:es.all notStar=true) (hl:Nat.ble es.length 1000=true) (h:Evs c A sc env es ρ S vs S'):Ev c A sc env (.Tuple es n p) ρ S (.tup vs) S':=by
 unfold Ev
 rw [arm_eval_Tuple,kK hp]
 refine RunC.at (RunC.bind LocRel.stab h.run fun ws=>RunC.by (p:=ws.length=vs.length) (fun σ h _ i=>i.2.length.symm) fun hwl=>?_)
 exact (Run.lift (ji4 (vs:=vs) (jkM hwl h.len hl))).pre fun σ h _ i=>i.2
theorem jw5 {es:List Expr} {p:Pos} {vs:List AV} {S':St} (hp:es.all notStar=true) (hl:Nat.ble es.length 1000=true) (h:Evs c A sc env es ρ S vs S'):Ev c A sc env (.List es p) ρ S (.ref S'.length) (S'++[.list vs]):=by
 unfold Ev
 rw [arm_eval_List,kK hp]
 refine RunC.at (RunC.bind LocRel.stab h.run fun ws=>RunC.by (p:=ws.length=vs.length) (fun σ h _ i=>i.2.length.symm) fun hwl=>?_)
 exact (Run.lift (jjK (vs:=vs) (jkM hwl h.len hl))).pre fun σ h _ i=>i.2
end
end Mine
end
section
open PySem PySem.W PyProof.Rows PySem.Calls
namespace Mine
section
variable {c:Cx} {A:Around} {sc:Scope} {env:Env} {ρ:Loc} {S S1 S2 S3:St}
theorem mI {α β:Type} {x:Option α} {k:α→β} {r:β} (h:x.map k=some r):∃ a,x=some a∧k a=r:=match x,h with
 | some a,h=>⟨a,rfl,Option.some.inj h⟩
theorem wD {α β:Type} {x:Option α} {k:α→Option β} {r:β} (h:x.bind k=some r):∃ a,x=some a∧k a=some r:=match x,h with
 | some a,h=>⟨a,rfl,h⟩
theorem jP {α β:Type} {x:Option α} {k:α→Option β} {r:β} {C:Prop} (H:∀ a,x=some a→k a=some r→C):x.bind k=some r→C:=match x,H with
 | none,_=>fun h=>j0 h
 | some a,H=>H a rfl
theorem jY {α β:Type} {x:Option α} {k:α→β} {r:β} {C:β→Prop} (H:∀ a,x=some a→C (k a)):x.map k=some r→C r:=match x,H with
 | none,_=>fun h=>j0 h
 | some a,H=>fun h=>Option.some.inj h▸H a rfl
theorem bE {α β γ:Type} {x:Option (α×β)} {k:α×β→Option γ} {r:γ} {P:Prop} (h:x.bind k=some r) (H:∀ v S,x=some (v,S)→k (v,S)=some r→P):P:=match x,h,H with
 | some (v,S),h,H=>H v S rfl h
theorem mE {α β γ:Type} {x:Option (α×β)} {k:α×β→γ} {r:γ} {P:Prop} (h:x.map k=some r) (H:∀ v S,x=some (v,S)→k (v,S)=r→P):P:=match x,h,H with
 | some (v,S),h,H=>H v S rfl (Option.some.inj h)
theorem bO {α γ:Type} {x:Option α} {k:α→Option γ} {r:γ} {P:Prop} (h:x.bind k=some r) (H:∀ v,x=some v→k v=some r→P):P:=match x,h,H with
 | some v,h,H=>H v rfl h
theorem mO {α γ:Type} {x:Option α} {k:α→γ} {r:γ} {P:Prop} (h:x.map k=some r) (H:∀ v,x=some v→k v=r→P):P:=match x,h,H with
 | some v,h,H=>H v rfl (Option.some.inj h)
theorem pE {α β:Type} {a c:α} {b d:β} {P:Prop} (h:(a,b)=(c,d)) (H:a=c→b=d→P):P:=match h with
 | rfl=>H rfl rfl
theorem jD {α:Type} {p:Prop} [Decidable p] {x:Option α} {r:α} (h:(if p then x else none)=some r):p∧x=some r:=by
 by_cases q:p
 ·rw [if_pos q] at h;exact ⟨q,h⟩
 ·rw [if_neg q] at h;exact j0 h
theorem jcQ {a:AV} {w:Value} {b:Bool} (h:truthy a=some b):Run c A S (PySem.truthy w) S (fun _ _ r=>r=b) (fun σ h=>VRel c σ h a w):=
 Run.toks fun σ s Q E R V q=>by
  cases V with
  | none=>exact wpAny_pure (q _ s.toks (Option.some.inj h))
  | bool x=>exact wpAny_truthy_bool (q _ s.toks (Option.some.inj h))
  | int i t=>
   refine truthy_int (q _ s.toks (Eq.trans ?_ (Option.some.inj h)))
   by_cases hi:i=0<;>simp [hi]
  | _=>exact j0 h
theorem xW {a:AV} {w:Value} {b:Bool} (h:truthy a=some b):RunC c A S (PySem.truthy w) S (fun _ _ r=>r=b) (fun σ h=>VRel c σ h a w):=Run.lift (jcQ h)
noncomputable def Tst (c:Cx) (A:Around) (sc:Scope) (env:Env) (e:Expr) (ρ:Loc) (S S':St) (b:Bool):Prop:=
 RunC c A S (isTrue e env (eval e env)) S' (fun _ _ r=>r=b) (fun σ h=>LocRel c σ h sc env ρ)
theorem jfW {e:Expr} {v:AV} {b:Bool} (hs:Ev c A sc env e ρ S v S1) (he:isTrue e env (eval e env)=(do let v ← eval e env;standAt e.pos;holding [v] (PySem.truthy v))) (hb:truthy v=some b):Tst c A sc env e ρ S S1 b:=by
 unfold Tst
 rw [he]
 exact RunC.bind LocRel.stab hs fun w=>RunC.at (RunC.holding ((xW hb).pre fun σ h _ i=>i.2))
theorem RunC.known {α:Type} {J:Sig→Heap→Prop} {V:Sig→Heap→α→Prop} {b y:Bool} {t:Bool→Sem α} (h:RunC c A S (t b) S1 V J):RunC c A S (t y) S1 V (fun σ h=>J σ h∧y=b):=
 RunC.by (p:=y=b) (fun σ h _ i=>i.2) fun hy=>hy▸h.pre fun σ h _ i=>i.1
theorem un_run {op:UnaryOp} {a r:AV} {w:Value} (h:unV op a=some r):Run c A S (unaryOp op w) S (fun σ h x=>VRel c σ h r x) (fun σ h=>VRel c σ h a w):=by
 induction op using PySem.UnaryOp.casesOn with
 | Not=>
  refine xEA (mI h) fun b hb e=>?_
  intro σ s Q E R V k
  exact not_of (jcQ hb σ s _ E R V fun σ' h' t' x R' T q=>k σ' h' t' _ R' T (by rw [q,← e];exact .bool _))
 | USub=>
  induction a using AV.casesOn<;>first | exact j0 h | skip
  exact Run.toks fun σ s Q E R V q=>match V with
   | .int i t=>neg_int (q _ _ (Option.some.inj h▸.int _ _))
 | _=>exact j0 h
theorem ev_un {op:UnaryOp} {e:Expr} {p:Pos} {a r:AV} (hs:Ev c A sc env e ρ S a S1) (hr:unV op a=some r):Ev c A sc env (.UnaryOp op e p) ρ S r S1:=by
 unfold Ev
 rw [arm_eval_UnaryOp]
 exact RunC.bind LocRel.stab hs fun w=>RunC.at (RunC.holding ((Run.lift (un_run hr)).pre fun σ h _ i=>i.2))
theorem jw7 {e:Expr} {p:Pos} {b:Bool} (hs:Tst c A sc env e ρ S S1 b):Tst c A sc env (.UnaryOp .Not e p) ρ S S1 (!b):=by
 unfold Tst
 rw [arm_isTrue_UnaryOp]
 exact RunC.bind LocRel.stab hs fun y=>RunC.known (t:=fun y=>pure !y) (RunC.pure fun _ _ _=>rfl)
theorem ev_bin {op:Operator} {l r:Expr} {p:Pos} {a b v:AV} (h1:Ev c A sc env l ρ S a S1) (h2:Ev c A sc env r ρ S1 b S2)
  (h:∀ x y,Run c A S2 (binaryOp op x y) S3 (fun σ h w=>VRel c σ h v w) (fun σ h=>VRel c σ h a x∧VRel c σ h b y)):Ev c A sc env (.BinOp l op r p) ρ S v S3:=by
 unfold Ev
 rw [arm_eval_BinOp]
 exact RunC.bind LocRel.stab h1 fun x=>RunC.bind (LocRel.stab.and Stab.vrel) (RunC.holding (h2.pre fun σ h _ i=>i.1)) fun y=>RunC.at (RunC.operate ((Run.lift (h x y)).pre fun σ h _ i=>⟨i.1.2,i.2⟩))
theorem jvE {t b o:Expr} {p:Pos} {r:AV} {x:Bool} (ht:Tst c A sc env t ρ S S1 x) (h:Ev c A sc env (cond x b o) ρ S1 r S2):Ev c A sc env (.IfExp t b o p) ρ S r S2:=by
 unfold Ev
 rw [arm_eval_IfExp]
 exact RunC.bind LocRel.stab ht fun y=>RunC.known (t:=fun y=>if y=true then eval b env else eval o env) (by induction x using Bool.casesOn<;>exact h)
theorem jqP {t b o:Expr} {p:Pos} {x y:Bool} (ht:Tst c A sc env t ρ S S1 x) (h:Tst c A sc env (cond x b o) ρ S1 S2 y):Tst c A sc env (.IfExp t b o p) ρ S S2 y:=by
 unfold Tst
 rw [arm_isTrue_IfExp]
 exact RunC.bind LocRel.stab ht fun z=>RunC.known (t:=fun z=>if z=true then isTrue b env (eval b env) else isTrue o env (eval o env)) (by induction x using Bool.casesOn<;>exact h)
noncomputable def EvB (c:Cx) (A:Around) (sc:Scope) (env:Env) (op:BoolOp) (es:List Expr) (ρ:Loc) (S:St) (v:AV) (S':St):Prop:=
 ∀ pos,RunC c A S (boolOp pos op (evalEach es env)) S' (fun σ h w=>VRel c σ h v w) (fun σ h=>LocRel c σ h sc env ρ)
noncomputable def TstB (c:Cx) (A:Around) (sc:Scope) (env:Env) (op:BoolOp) (es:List Expr) (ρ:Loc) (S S':St) (b:Bool):Prop:=
 RunC c A S (allTrue op es env) S' (fun _ _ r=>r=b) (fun σ h=>LocRel c σ h sc env ρ)
noncomputable def goB (op:BoolOp) (t:Bool) {α:Type} (x y:α):α:=match op,t with
 | .And,false=>x
 | .Or,true=>x
 | _,_=>y
theorem jx1 {op:BoolOp} {e:Expr} {v:AV} (h:Ev c A sc env e ρ S v S1):EvB c A sc env op [e] ρ S v S1:=fun _=>h
theorem jsA {op:BoolOp} {e e2:Expr} {es:List Expr} {v:AV} {b:Bool} (h:Ev c A sc env e ρ S v S1) (hb:truthy v=some b) (ho:goB op b true false=true):EvB c A sc env op (e::e2::es) ρ S v S1:=fun pos=>
 RunC.bind LocRel.stab h fun w=>RunC.at (RunC.bind (LocRel.stab.and Stab.vrel) (RunC.holding ((xW hb).pre fun σ h _ i=>i.2)) fun y=>RunC.by (p:=y=b) (fun σ h _ i=>i.2) fun hy=>by
  subst hy
  induction op using PySem.BoolOp.casesOn<;>induction y using Bool.casesOn<;>first | exact Bool.noConfusion ho | exact RunC.pure fun σ h i=>i.1.2)
theorem evB_go {op:BoolOp} {e e2:Expr} {es:List Expr} {a v:AV} {b:Bool} (h:Ev c A sc env e ρ S a S1) (hb:truthy a=some b) (ho:goB op b true false=false) (h2:EvB c A sc env op (e2::es) ρ S1 v S2):EvB c A sc env op (e::e2::es) ρ S v S2:=fun pos=>
 RunC.bind LocRel.stab h fun w=>RunC.at (RunC.bind (LocRel.stab.and Stab.vrel) (RunC.holding ((xW hb).pre fun σ h _ i=>i.2)) fun y=>RunC.by (p:=y=b) (fun σ h _ i=>i.2) fun hy=>by
  subst hy
  induction op using PySem.BoolOp.casesOn<;>induction y using Bool.casesOn<;>first | exact Bool.noConfusion ho | exact (h2 pos).pre fun σ h _ i=>i.1.1)
theorem jvX {op:BoolOp} {es:List Expr} {p:Pos} {v:AV} (h:EvB c A sc env op es ρ S v S1):Ev c A sc env (.BoolOp op es p) ρ S v S1:=by
 unfold Ev
 rw [arm_eval_BoolOp]
 exact h _
theorem jtC {op:BoolOp} {es:List Expr} {p:Pos} {b:Bool} (h:TstB c A sc env op es ρ S S1 b):Tst c A sc env (.BoolOp op es p) ρ S S1 b:=by
 unfold Tst
 rw [arm_isTrue_BoolOp]
 exact h
theorem js2 {op:BoolOp} {e:Expr} {b:Bool} (h:Tst c A sc env e ρ S S1 b):TstB c A sc env op [e] ρ S S1 b:=
 RunC.bind LocRel.stab h fun y=>RunC.by (p:=y=b) (fun σ h _ i=>i.2) fun hy=>by
  subst hy
  induction op using PySem.BoolOp.casesOn<;>induction y using Bool.casesOn<;>exact RunC.pure fun σ h i=>rfl
theorem jqI {op:BoolOp} {e e2:Expr} {es:List Expr} {b:Bool} (h:Tst c A sc env e ρ S S1 b) (ho:goB op b true false=true):TstB c A sc env op (e::e2::es) ρ S S1 b:=
 RunC.bind LocRel.stab h fun y=>RunC.by (p:=y=b) (fun σ h _ i=>i.2) fun hy=>by
  subst hy
  induction op using PySem.BoolOp.casesOn<;>induction y using Bool.casesOn<;>first | exact Bool.noConfusion ho | exact RunC.pure fun σ h i=>rfl
theorem jwH {op:BoolOp} {e e2:Expr} {es:List Expr} {b r:Bool} (h:Tst c A sc env e ρ S S1 b) (ho:goB op b true false=false) (h2:TstB c A sc env op (e2::es) ρ S1 S2 r):TstB c A sc env op (e::e2::es) ρ S S2 r:=
 RunC.bind LocRel.stab h fun y=>RunC.by (p:=y=b) (fun σ h _ i=>i.2) fun hy=>by
  subst hy
  induction op using PySem.BoolOp.casesOn<;>induction y using Bool.casesOn<;>first | exact Bool.noConfusion ho | exact h2.pre fun σ h _ i=>i.1
noncomputable def jbI (c:Cx) (A:Around):Prop:=∀ (S:St) (op:CmpOp) (a b:AV) (r:Bool),jO S op a b=some r→∀ x y,Run c A S (compareOp op x y) S (fun _ _ w=>w = .bool r) (fun σ h=>VRel c σ h a x∧VRel c σ h b y)
noncomputable def yH:Expr→Bool
 | .Set ..=>false
 | _=>true
theorem jf9 {op:CmpOp} {e:Expr} (h:yH e=true):behindInMarks op e=false:=by
 induction e using PySem.Expr.casesOn<;>first | rfl | exact Bool.noConfusion h
theorem nA {op:CmpOp} {e:Expr} {t:Sem Value} (h:yH e=true):markedEach [op] [e] [t]=[t]:=by
 show [markedBehindIn op e t]=[t]
 rw [markedBehindIn_of_false (jf9 h)]
theorem jd2 {op op2:CmpOp} {e e2:Expr} {t t2:Sem Value} (h2:yH e2=true):markedEach [op,op2] [e,e2] [t,t2]=[t,t2]:=by
 show t::markedEach [op2] [e2] [t2]=[t,t2]
 rw [nA h2]
section
variable {pos:Pos} {op op2:CmpOp} {l e e2:Expr} {a b v:AV} {x:Value} {r q:Bool}
theorem jh3 (C:jbI c A) (h:Ev c A sc env e ρ S b S1) (hr:jO S1 op a b=some r):RunC c A S (compareChain pos x [op] [eval e env]) S1 (fun σ h w=>VRel c σ h (.bool r) w) (fun σ h=>LocRel c σ h sc env ρ∧VRel c σ h a x):=
 RunC.bind (LocRel.stab.and Stab.vrel) (RunC.holding (h.pre fun σ h _ i=>i.1)) fun y=>RunC.at (RunC.operate (((Run.lift (C S1 op a b r hr x y)).pre fun σ h _ i=>⟨i.1.2,i.2⟩).post fun σ h w _ e=>by rw [e];exact .bool _))
theorem jcI (C:jbI c A) (h:Ev c A sc env e ρ S b S1) (hr:jO S1 op a b=some r):RunC c A S (testChain pos x [op] [eval e env]) S1 (fun _ _ y=>y=r) (fun σ h=>LocRel c σ h sc env ρ∧VRel c σ h a x):=
 RunC.bind (LocRel.stab.and Stab.vrel) (RunC.holding (h.pre fun σ h _ i=>i.1)) fun y=>RunC.at (RunC.bind ((LocRel.stab.and Stab.vrel).and Stab.vrel) (RunC.operate ((Run.lift (C S1 op a b r hr x y)).pre fun σ h _ i=>⟨i.1.2,i.2⟩)) fun w=>
  RunC.by (p:=w = .bool r) (fun σ h _ i=>i.2) fun hw=>by
   subst hw
   exact RunC.holding ((xW (a:=.bool r) rfl).pre fun σ h _ i=>.bool _))
theorem jk9 {α:Type} {V:Sig→Heap→α→Prop} (C:jbI c A) (h:Ev c A sc env e ρ S b S1) (hr:jO S1 op a b=some r) {go:Value→Sem α} {stop:Value→Sem α}
  (hk:∀ y,RunC c A S1 (cond r (go y) (stop (.bool r))) S2 V (fun σ h=>LocRel c σ h sc env ρ∧VRel c σ h b y)) :
  RunC c A S (do
   let rv ← holding [x] (eval e env)
   standAt pos
   let c ← holding [x,rv] (compareOp op x rv)
   PySem.release [x,rv] [c]
   if ← holding [c,rv] (PySem.truthy c) then go rv else stop c) S2 V (fun σ h=>LocRel c σ h sc env ρ∧VRel c σ h a x):=
 RunC.bind (LocRel.stab.and Stab.vrel) (RunC.holding (h.pre fun σ h _ i=>i.1)) fun y=>RunC.at (RunC.bind ((LocRel.stab.and Stab.vrel).and Stab.vrel) (RunC.holding ((Run.lift (C S1 op a b r hr x y)).pre fun σ h _ i=>⟨i.1.2,i.2⟩)) fun w=>
  RunC.by (p:=w = .bool r) (fun σ h _ i=>i.2) fun hw=>by
   subst hw
   refine RunC.pre (J:=fun σ h=>LocRel c σ h sc env ρ∧VRel c σ h b y) ?_ fun σ h _ i=>⟨i.1.1.1,i.1.2⟩
   refine RunC.bind (LocRel.stab.and Stab.vrel) (RunC.release (W:=fun _ _ _=>True) fun _ _ _=>trivial) fun _=>RunC.pre (J:=fun σ h=>LocRel c σ h sc env ρ∧VRel c σ h b y) ?_ fun σ h _ i=>i.1
   refine RunC.bind (LocRel.stab.and Stab.vrel) (RunC.holding ((xW (a:=.bool r) rfl).pre fun σ h _ i=>.bool _)) fun z=>RunC.known (t:=fun z=>if z=true then go y else stop (.bool r)) ?_
   have:=hk y
   induction r using Bool.casesOn<;>exact this)
theorem ev_cmp (C:jbI c A) {p:Pos} (h1:Ev c A sc env l ρ S a S1) (hn:yH e=true) (h2:Ev c A sc env e ρ S1 b S2) (hr:jO S2 op a b=some r):Ev c A sc env (.Compare l [op] [e] p) ρ S (.bool r) S2:=by
 unfold Ev
 rw [arm_eval_Compare]
 show RunC c A S (eval l env >>= fun x=>compareChain _ x [op] (markedEach [op] [e] [eval e env])) S2 _ _
 rw [nA hn]
 exact RunC.bind LocRel.stab h1 fun x=>jh3 C h2 hr
theorem jwK (C:jbI c A) {p:Pos} (h1:Ev c A sc env l ρ S a S1) (hn:yH e=true) (h2:Ev c A sc env e ρ S1 b S2) (hr:jO S2 op a b=some r):Tst c A sc env (.Compare l [op] [e] p) ρ S S2 r:=by
 unfold Tst
 rw [arm_isTrue_Compare]
 show RunC c A S (eval l env >>= fun x=>testChain _ x [op] (markedEach [op] [e] [eval e env])) S2 _ _
 rw [nA hn]
 exact RunC.bind LocRel.stab h1 fun x=>jcI C h2 hr
noncomputable def Two (c:Cx) (A:Around) (sc:Scope) (env:Env) (op2:CmpOp) (e2:Expr) (b:AV) (ρ:Loc) (S:St):Bool→Bool→St→Prop
 | true,q,S'=>∃ v S1,Ev c A sc env e2 ρ S v S1∧jO S1 op2 b v=some q∧S'=S1
 | false,q,S'=>q=false∧S'=S
theorem jw3 (C:jbI c A) {p:Pos} (h1:Ev c A sc env l ρ S a S1) (hn2:yH e2=true) (h2:Ev c A sc env e ρ S1 b S2) (hr:jO S2 op a b=some r) (h3:Two c A sc env op2 e2 b ρ S2 r q S3):Ev c A sc env (.Compare l [op,op2] [e,e2] p) ρ S (.bool q) S3:=by
 unfold Ev
 rw [arm_eval_Compare]
 show RunC c A S (eval l env >>= fun x=>compareChain _ x [op,op2] (markedEach [op,op2] [e,e2] [eval e env,eval e2 env])) S3 _ _
 rw [jd2 hn2]
 refine RunC.bind LocRel.stab h1 fun x=>jk9 C h2 hr (go:=fun rv=>compareChain _ rv [op2] [eval e2 env]) (stop:=fun c=>pure c) fun y=>?_
 induction r using Bool.casesOn with
 | true=>
  refine jB h3 fun v S4 g1 g2 q4q=>?_;obtain rfl:=q4q
  exact jh3 C g1 g2
 | false=>
  obtain ⟨rfl,rfl⟩:=h3
  exact RunC.pure fun σ h i=>.bool _
theorem jtI (C:jbI c A) {p:Pos} (h1:Ev c A sc env l ρ S a S1) (hn2:yH e2=true) (h2:Ev c A sc env e ρ S1 b S2) (hr:jO S2 op a b=some r) (h3:Two c A sc env op2 e2 b ρ S2 r q S3):Tst c A sc env (.Compare l [op,op2] [e,e2] p) ρ S S3 q:=by
 unfold Tst
 rw [arm_isTrue_Compare]
 show RunC c A S (eval l env >>= fun x=>testChain _ x [op,op2] (markedEach [op,op2] [e,e2] [eval e env,eval e2 env])) S3 _ _
 rw [jd2 hn2]
 refine RunC.bind LocRel.stab h1 fun x=>jk9 C h2 hr (go:=fun rv=>testChain _ rv [op2] [eval e2 env]) (stop:=fun _=>pure false) fun y=>?_
 induction r using Bool.casesOn with
 | true=>
  refine jB h3 fun v S4 g1 g2 q4q=>?_;obtain rfl:=q4q
  exact jcI C g1 g2
 | false=>
  obtain ⟨rfl,rfl⟩:=h3
  exact RunC.pure fun σ h i=>rfl
end
end
end Mine
end
section
open PySem
namespace Mine
theorem jgE {v:AV} {i:Unit} (h:joK v=some i):v = .none:=by rcases v<;>first | exact j0 h | rfl
theorem jpX {v:AV} {i:Bool} (h:jtD v=some i):v = .bool i:=by rcases v<;>first | exact j0 h | exact congrArg AV.bool (Option.some.inj h)
theorem yF {v:AV} {i:Int} (h:vJ v=some i):v = .int i:=by rcases v<;>first | exact j0 h | exact congrArg AV.int (Option.some.inj h)
theorem jsS {v:AV} {i:Str} (h:asStr v=some i):v = .str i:=by rcases v<;>first | exact j0 h | exact congrArg AV.str (Option.some.inj h)
theorem joN {v:AV} {i:List UInt8} (h:jp7 v=some i):v = .bytes i:=by rcases v<;>first | exact j0 h | exact congrArg AV.bytes (Option.some.inj h)
theorem jv3 {v:AV} {i:List AV} (h:asTup v=some i):v = .tup i:=by rcases v<;>first | exact j0 h | exact congrArg AV.tup (Option.some.inj h)
theorem y0 {v:AV} {i:Nat} (h:u0 v=some i):v = .ref i:=by rcases v<;>first | exact j0 h | exact congrArg AV.ref (Option.some.inj h)
theorem jr6 {x:AV} (h:yP x=true):∃ i,x = .int i:=by rcases x<;>first | exact Bool.noConfusion h | exact ⟨_,rfl⟩
theorem jcJ {x:AV} {r:List AV} {ns:List Int} {P:AV→List Int→Prop} (h:intsOf (x::r)=some ns) (H:∀ i m,intsOf r=some m→P (.int i) (i::m)):P x ns:=by
 rcases x<;>first | exact j0 h | exact mO h fun m e q=>q▸H _ m e
theorem jnE {x:AV} {r:List AV} {ns:List Str} {P:AV→List Str→Prop} (h:strsOf (x::r)=some ns) (H:∀ i m,strsOf r=some m→P (.str i) (i::m)):P x ns:=by
 rcases x<;>first | exact j0 h | exact mO h fun m e q=>q▸H _ m e
theorem jiZ {x:AV} {r:List AV} {b:List UInt8} {P:AV→List UInt8→Prop} (h:u6 (x::r)=some b) (H:∀ (i:Int) m,0≤i∧i < 256→u6 r=some m→P (.int i) (UInt8.ofNat i.toNat::m)):P x b:=by
 rcases x<;>first | exact j0 h | exact mO (jD h).2 fun m e q=>q▸H _ m (jD h).1 e
theorem iE {α:Type} {p:Prop} [Decidable p] {x y:Option α} {r:α} {P:Prop} (h:(if p then x else y)=some r) (h1:p→x=some r→P) (h2:y=some r→P):P:=by
 by_cases q:p
 ·exact h1 q ((if_pos q).symm.trans h)
 ·exact h2 ((if_neg q).symm.trans h)
theorem or_inv {α:Type} {x y:Option α} {r:α} {P:Prop} (h:x.or y=some r) (h1:x=some r→P) (h2:y=some r→P):P:=by
 rcases x with _ | v
 ·exact h2 h
 ·exact h1 h
section
variable {S S1:St} {k:Nat}
theorem listAt_eq {xs:List AV} (h:listAt S k=some xs):S[k]? = some (.list xs):=bO h fun o e h=>by rcases o<;>first | exact j0 h | exact e.trans (congrArg (fun x=>some (AO.list x)) (Option.some.inj h))
theorem zG {d:Nat×List (AV×AV)×Nat} (h:dictAt S k=some d):S[k]? = some (.dict d.1 d.2.1 d.2.2):=bO h fun o e h=>by rcases o<;>first | exact j0 h | exact e.trans (congrArg (fun d:Nat×List (AV×AV)×Nat=>some (AO.dict d.1 d.2.1 d.2.2)) (Option.some.inj h))
theorem jfZ {d:Str×List (Str×AV)} (h:jiV S k=some d):S[k]? = some (.inst d.1 d.2):=bO h fun o e h=>by rcases o<;>first | exact j0 h | exact e.trans (congrArg (fun d:Str×List (Str×AV)=>some (AO.inst d.1 d.2)) (Option.some.inj h))
theorem jx2 {b:List UInt8} (h:baAt S k=some b):S[k]? = some (.ba b):=bO h fun o e h=>by rcases o<;>first | exact j0 h | exact e.trans (congrArg (fun x=>some (AO.ba x)) (Option.some.inj h))
theorem nB {l:List AV} {a:AV} (h:one l=some a):l=[a]:=by
 rcases l with _ | ⟨x,_ | ⟨y,l⟩⟩
 ·exact j0 h
 ·exact congrArg (fun x=>[x]) (Option.some.inj h)
 ·exact j0 h
theorem two_eq {l:List AV} {p:AV×AV} (h:two l=some p):l=[p.1,p.2]:=by
 rcases l with _ | ⟨x,_ | ⟨y,_ | ⟨z,l⟩⟩⟩
 ·exact j0 h
 ·exact j0 h
 ·exact congrArg (fun p:AV×AV=>[p.1,p.2]) (Option.some.inj h)
 ·exact j0 h
theorem xR {α:Type} {op:Operator} {x:Option α} {r:α} (h:jsK op x=some r):op = .Add∧x=some r:=by rcases op<;>first | exact j0 h | exact ⟨rfl,h⟩
theorem jgT {α:Type} {op:Operator} {x:Option α} {r:α} (h:jtQ op x=some r):op = .Mult∧x=some r:=by rcases op<;>first | exact j0 h | exact ⟨rfl,h⟩
theorem jtW {p:Int→Int→Bool} {a b:AV} {r:Bool} {P:AV→AV→Bool→Prop} (h:cmpI p a b=some r) (H:∀ x y,P (.int x) (.int y) (p x y)):P a b r:=
 bO h fun x ex h=>mO h fun y ey e=>yF ex▸yF ey▸e▸H x y
theorem jg7 {a b:AV} {q:Bool} {P:AV→AV→Prop} (h:xC S a b=some q) (h1:eqV S 6 a b=some q→P a b)
  (h2:∀ j k f es ep g fs ep',S[j]? = some (.dict f es ep)→S[k]? = some (.dict g fs ep')→(if es.length=fs.length then (if f=g∨es=[] then wM (eqV S 6) fs es else none) else some false)=some q→P (.ref j) (.ref k)):P a b:=by
 have h:(eqD S a b).getD (eqV S 6 a b)=some q:=h
 rcases hd:eqD S a b with _ | r
 ·exact h1 ((congrArg (fun o=>Option.getD o (eqV S 6 a b)) hd).symm.trans h)
 ·exact bO hd fun j ej hd'=>bO hd' fun k ek hd'=>bO hd' fun d ed hd'=>mO hd' fun e ee h'=>y0 ej▸y0 ek▸h2 j k _ _ _ _ _ _ (zG ed) (zG ee) (h'.trans ((congrArg (fun o=>Option.getD o (eqV S 6 a b)) hd).symm.trans h))
theorem jpQ {x y:AV} {r:Bool} {P:AV→Bool→Prop} (h:inV S x y=some r) (h1:∀ ys,mY S x ys=some r→P (.tup ys) r) (h2:∀ k ys,S[k]? = some (.list ys)→mY S x ys=some r→P (.ref k) r)
  (h3:∀ k fl es ep,S[k]? = some (.dict fl es ep)→j7 x≠0→fl=0∨fl=j7 x→P (.ref k) (j6 x es).isSome):P y r:=by
 induction y using AV.casesOn with
 | tup ys=>exact h1 ys h
 | ref k=>
  refine bO h fun o e h=>?_
  induction o using AO.casesOn with
  | list ys=>exact h2 k ys e h
  | dict fl es ep=>exact Option.some.inj (jD h).2▸h3 k fl es ep e (jD h).1.1 (jD h).1.2
  | _=>exact j0 h
 | _=>exact j0 h
theorem juP {op:Operator} {a b:AV} {p:AV×St} {P:Operator→AV→AV→AV×St→Prop} (h:zK op a b S=some p) (h1:∀ x y i,jdU op x y=some i→P op (.int x) (.int y) (.int i,S))
  (h2:∀ xs ys,xs.length+ys.length≤jC→P .Add (.tup xs) (.tup ys) (.tup (xs++ys),S))
  (h3:∀ j k xs ys,S[j]? = some (.list xs)→S[k]? = some (.list ys)→xs.length+ys.length≤jC→P .Add (.ref j) (.ref k) (.ref S.length,S++[.list (xs++ys)]))
  (h4:∀ j n x,S[j]? = some (.list [x])→0≤n→n≤1000→P .Mult (.ref j) (.int n) (.ref S.length,S++[.list (List.replicate n.toNat x)])):P op a b p:=by
 induction a using AV.casesOn with
 | int x=>exact bO h fun y ey h=>mO h fun i hi e=>yF ey▸e▸h1 x y i hi
 | tup xs=>exact bO h fun ys ey h=>jv3 ey▸(xR h).1▸Option.some.inj (jD (xR h).2).2▸h2 xs ys (jD (xR h).2).1
 | ref j=>induction b using AV.casesOn with
  | ref k=>exact bO (xR h).2 fun xs e1 h'=>bO h' fun ys e2 h'=>(xR h).1▸Option.some.inj (jD h').2▸h3 j k xs ys (listAt_eq e1) (listAt_eq e2) (jD h').1
  | int n=>exact bO (jgT h).2 fun xs e1 h'=>bO h' fun x e2 h'=>(jgT h).1▸Option.some.inj (jD h').2▸h4 j n x (nB e2▸listAt_eq e1) (jD h').1.1 (jD h').1.2
  | _=>exact j0 h
 | _=>exact j0 h
theorem jl0 {o i v:AV} {P:AV→AV→Prop} (h:k9 S o i=some v) (h1:∀ xs j,itemAt xs j=some v→P (.tup xs) (.int j)) (h2:∀ b j,byteAt b j=some v→P (.bytes b) (.int j))
  (h3:∀ k xs j,S[k]? = some (.list xs)→itemAt xs j=some v→P (.ref k) (.int j)) (h4:∀ k fl es ep,S[k]? = some (.dict fl es ep)→j7 i≠0→fl=j7 i→j6 i es=some v→P (.ref k) i)
  (h5:∀ k b j,S[k]? = some (.ba b)→byteAt b j=some v→P (.ref k) (.int j)):P o i:=by
 induction o using AV.casesOn with
 | tup xs=>exact bO h fun j e h=>yF e▸h1 xs j h
 | bytes b=>exact bO h fun j e h=>yF e▸h2 b j h
 | ref k=>
  refine bO h fun o e h=>?_
  induction o using AO.casesOn with
  | list xs=>exact bO h fun j e' h=>yF e'▸h3 k xs j e h
  | dict fl es ep=>exact h4 k fl es ep e (jD h).1.1 (jD h).1.2 (jD h).2
  | inst _ _=>exact j0 h
  | ba b=>exact bO h fun j e' h=>yF e'▸h5 k b j e h
 | _=>exact j0 h
theorem jeN {o:AV} {lo hi:Option Int} {p:AV×St} {P:AV→AV×St→Prop} (h:uX S o lo hi=some p) (h1:∀ xs ys,cut xs lo hi=some ys→P (.tup xs) (.tup ys,S)) (h2:∀ b ys,cut b lo hi=some ys→P (.bytes b) (.bytes ys,S))
  (h3:∀ k b ys,S[k]? = some (.ba b)→cut b lo hi=some ys→P (.ref k) (.ref S.length,S++[.ba ys])):P o p:=by
 induction o using AV.casesOn with
 | tup xs=>exact mO h fun ys e q=>q▸h1 xs ys e
 | bytes b=>exact mO h fun ys e q=>q▸h2 b ys e
 | ref k=>exact bO h fun b e h=>mO h fun ys e' q=>q▸h3 k b ys (jx2 e) e'
 | _=>exact j0 h
theorem jv5 {o:AV} {n:Nat} {P:AV→Nat→Prop} (h:lenN S o=some n) (h1:∀ xs,P (.tup xs) xs.length) (h2:∀ b,P (.bytes b) b.length) (h3:∀ k xs,S[k]? = some (.list xs)→P (.ref k) xs.length)
  (h4:∀ k fl es ep,S[k]? = some (.dict fl es ep)→P (.ref k) es.length) (h5:∀ k b,S[k]? = some (.ba b)→P (.ref k) b.length):P o n:=by
 induction o using AV.casesOn with
 | tup xs=>exact Option.some.inj h▸h1 xs
 | bytes b=>exact Option.some.inj h▸h2 b
 | ref k=>
  refine bO h fun o e h=>?_
  induction o using AO.casesOn with
  | list xs=>exact Option.some.inj h▸h3 k xs e
  | dict fl es ep=>exact Option.some.inj h▸h4 k fl es ep e
  | inst _ _=>exact j0 h
  | ba b=>exact Option.some.inj h▸h5 k b e
 | _=>exact j0 h
theorem jm6 {o:AV} {p:List AV×Option Nat} {P:AV→List AV×Option Nat→Prop} (h:itemsOf S o=some p) (h1:∀ xs,P (.tup xs) (xs,none)) (h2:∀ b:List UInt8,P (.bytes b) (b.map fun x=>.int x.toNat,none))
  (h3:∀ k xs,S[k]? = some (.list xs)→P (.ref k) (xs,some k)) (h4:∀ k fl es ep,S[k]? = some (.dict fl es ep)→P (.ref k) (es.map (·.1),some k)):P o p:=by
 induction o using AV.casesOn with
 | tup xs=>exact Option.some.inj h▸h1 xs
 | bytes b=>exact Option.some.inj h▸h2 b
 | ref k=>
  refine bO h fun o e h=>?_
  induction o using AO.casesOn with
  | list xs=>exact Option.some.inj h▸h3 k xs e
  | dict fl es ep=>exact Option.some.inj h▸h4 k fl es ep e
  | _=>exact j0 h
 | _=>exact j0 h
theorem jiM {o:AV} {vs:List AV} {P:AV→Prop} (h:yE S o=some vs) (h1:P (.tup vs)) (h2:∀ k,S[k]? = some (.list vs)→P (.ref k)):P o:=by
 induction o using AV.casesOn with
 | tup xs=>exact Option.some.inj h▸h1
 | ref k=>exact h2 k (listAt_eq h)
 | _=>exact j0 h
theorem jvI {l:List AV} {i:Int} {P:List AV→Int→Prop} (h:minV S l=some i) (h1:∀ k xs x rs,S[k]? = some (.list xs)→intsOf xs=some (x::rs)→P [.ref k] (rs.foldl (fun m y=>if y < m then y else m) x)) (h2:∀ a b,P [.int a,.int b] (if b < a then b else a)):P l i:=by
 rcases l with _ | ⟨o,_ | ⟨y,_ | ⟨z,l⟩⟩⟩
 ·exact j0 h
 ·refine bO h fun k ek h=>bO h fun xs ex h=>bO h fun l el h=>y0 ek▸?_
  rcases l with _ | ⟨x,rs⟩
  ·exact j0 h
  ·exact Option.some.inj h▸h1 k xs x rs (listAt_eq ex) el
 ·exact bO h fun a ea h=>mO h fun b eb e=>yF ea▸yF eb▸e▸h2 a b
 ·exact j0 h
theorem joH {o:Option AO} {b:List UInt8} {P:Option AO→Prop} (h:o.bind jv6=some b) (h1:∀ xs,xs.length≤1000→u6 xs=some b→P (some (.list xs))) (h2:b.length≤1000→P (some (.ba b))):P o:=bO h fun o e h=>e▸by
 induction o using AO.casesOn with
 | list xs=>exact h1 xs (jD h).1 (jD h).2
 | ba b'=>exact Option.some.inj (jD h).2▸h2 (Option.some.inj (jD h).2▸(jD h).1)
 | _=>exact j0 h
end
end Mine
end
section
open PySem PySem.W PyProof.Rows PySem.Calls
namespace Mine
noncomputable def attrNames:List Str:=(["at","data","doers","end","expects","fields","flows","has_maxack","homes","hook","is_closing","is_liberal","is_loose","is_reply","is_sack","is_scaled","is_unacked","kind","l4","last"]:List Str)++(["link","log","mark","master","maxack","maxend","maxwin","meta","most","now","number","objects","off","ops","order","original","packet","place","readers","replies"]:List Str)++(["reply","scale","seed","sets","sides","since","state","status","steps","t","table","talk","talks","tools","trackers","tries","until","zone"]:List Str)
noncomputable def nX (K:Frag) (C:Addr) (a:Str):Bool:=plainGet K C a&&hasDictIn K C&&(match findIn K (.ref C) a with | some x=>noGet K x | none=>false) &&
 (findIn K (.ref C) "__setattr__" == some (some (.builtin "object.__setattr__")))&&plainOver K C&&(takerIn K C a==some none)
noncomputable def mX (c:Cx):Prop:=∀ cl∈clsNames,∀ C,c.mg cl=some (.ref C)→∀ a∈attrNames,nX c.K C a=true
theorem handed {c:Cx} {σ:Sig} {h:Heap} {a:AV} {v:Value} (V:VRel c σ h a v):handedIn v=true:=by induction V using VRel.casesOn<;>rfl
theorem jkN {x a:Str} {t:Tok}:(Value.str x t).isStr a=decide (x=a):=Bool.eq_iff_iff.2 ((beq_iff_eq (a:=x) (b:=a)).trans decide_eq_true_iff.symm)
theorem jwL {c:Cx} {σ:Sig} {h:Heap} {a:Str} {v:AV} {fs:List (Str×AV)} {ds:List DictEntry} (V:FRels c σ h fs ds):j6 a fs=some v→∃ w,getL a ds=some (some w)∧VRel c σ h v w:=by
 induction V with
 | nil=>exact j0
 | @cons x t u w fs ds V r ih=>
  intro e
  unfold getL
  rw [List.find?_cons,jkN]
  by_cases q:x=a
  ·obtain rfl:=Option.some.inj ((if_pos q).symm.trans e)
   rw [decide_eq_true q]
   exact ⟨w,rfl,V⟩
  ·rw [decide_eq_false q]
   refine xEA (ih ((if_neg q).symm.trans e)) fun w' e' V'=>⟨w',?_,V'⟩
   unfold getL at e'
   rcases he:List.find? (·.key.isStr a) ds with _ | en
   ·rw [he] at e'
    exact absurd e' (by cases ds.any (·.refKey)<;>exact fun q=>nomatch q)
   ·rw [he] at e';dsimp only;rw [he];exact e'
theorem js4 {c:Cx} {σ:Sig} {h:Heap} {fs:List (Str×AV)} {ds:List DictEntry} (V:FRels c σ h fs ds):ds.any (·.refKey)=false:=by
 induction V with
 | nil=>rfl
 | cons V r ih=>exact ih
theorem jq2 {c:Cx} {σ:Sig} {h:Heap} {a:Str} {fs:List (Str×AV)} {ds:List DictEntry} (r:FRels c σ h fs ds):(getL a ds).isSome=true:=by
 unfold getL
 split
 ·rfl
 ·rw [js4 r];rfl
theorem jwF {c:Cx} {σ:Sig} {h:Heap} {a:Str} {t:Tok} {v:AV} {w:Value} (V:VRel c σ h v w) {fs:List (Str×AV)} {ds:List DictEntry} (r:FRels c σ h fs ds):FRels c σ h (jA a v fs) (putL a (PyData.keyHash c.w.params a) (.str a t) w ds):=by
 induction r with
 | nil=>exact .cons V .nil
 | @cons x tx u uw fs ds U r ih=>
  unfold jA putL
  rw [jkN]
  by_cases q:x=a
  ·subst q
   rw [if_pos rfl,decide_eq_true rfl,if_pos rfl]
   exact .cons V r
  ·rw [if_neg q,decide_eq_false q,if_neg Bool.false_ne_true]
   exact .cons U ih
theorem yG {α β:Type} [DecidableEq α] {k:α} {v:β}:∀ {l:List (α×β)},(l.map (·.1)).Nodup→((jA k v l).map (·.1)).Nodup∧∀ x∈(jA k v l).map (·.1),x=k∨x∈l.map (·.1)
 | [],_=>by simp [jA]
 | (x,w)::r,h=>by
  unfold jA
  rw [List.map_cons,List.nodup_cons] at h
  by_cases q:x=k
  ·rw [if_pos q]
   refine ⟨by rw [List.map_cons,List.nodup_cons];exact h,fun y hy=>.inr hy⟩
  ·rw [if_neg q]
   refine xA (yG (k:=k) (v:=v) h.2) fun i1 i2=>?_
   refine ⟨?_,fun y hy=>?_⟩
   ·rw [List.map_cons,List.nodup_cons]
    refine ⟨fun hm=>?_,i1⟩
    rcases i2 x hm with e | e
    ·exact q e
    ·exact h.1 e
   ·rw [List.map_cons] at hy
    rcases List.mem_cons.mp hy with e | e
    ·exact .inr (by rw [e];exact .head _)
    ·rcases i2 y e with e | e
     ·exact .inl e
     ·exact .inr (.tail _ e)
theorem FRels.length {c:Cx} {σ:Sig} {h:Heap}:∀ {fs:List (Str×AV)} {ds:List DictEntry},FRels c σ h fs ds→fs.length=ds.length
 | _,_,.nil=>rfl
 | _,_,.cons _ r=>by simp [FRels.length r]
theorem jaT {α β:Type} [DecidableEq α] {k:α} {v:β}:∀ {l:List (α×β)},(jA k v l).length≤l.length+1
 | []=>Nat.le_refl _
 | (x,w)::r=>by
  unfold jA
  split
  ·simp
  ·have:=jaT (k:=k) (v:=v) (l:=r);simp;lia
section
variable {prog:Program} {w:World} {A:Around} {E:Value→Shared→Prop} {s:Shared} {K:Frag} {x C dx:Addr} {ox:Obj} {ds:List DictEntry} {n:Nat} {name:Str} {v:Value}
theorem jjL {Q:Unit→Shared→Prop} (X:K.In s.heap) (I:InstAt s.heap x ox C (some (dictOf ds n))) (hd:ox.dict=some dx) (hs:findIn K (.ref C) "__setattr__" = some (some (.builtin "object.__setattr__")))
  (hp:plainOver K C=true) (ht:takerIn K C name=some none) (hh:hasDictIn K C=true) (hl:(getL name ds).isSome=true) (hz:(putL name (PyData.keyHash w.params name) (.str name (s.toks+1)) v ds).length≤1000)
  (h:∀ h',Heap.SameBut dx s.heap h'→h'.get? dx=some (dictOf (putL name (PyData.keyHash w.params name) (.str name (s.toks+1)) v ds) (putN name ds n))→Q () { s with heap:=h',toks:=s.toks+2 }) :
  wpAny (model prog w) A (setAttr (.ref x) name v) Q E s:=by
 obtain ⟨hh0,g0,d0,t0,os0⟩:=s
 refine set_plain X I hs (osa_open (s:=⟨hh0,g0,d0,t0+1,os0⟩) X I hp ht fun b=>?_)
 refine xEA (any_some hh) fun cd hc hd'=>?_
 obtain ⟨hx,hcl,hn,hod⟩:=I
 obtain ⟨oc,odi,oda,osl⟩:=ox
 dsimp only at hcl hd hod
 subst hcl hd
 dsimp only at hod
 refine wpAny_bind (wpAny_pure (wpAny_bind (wpAny_bind (wpAny_loadPart hx (wpAny_bind ((looks_clsIn X hc).at ?_))))))
 rw [hd']
 refine wpAny_pure (a:=some dx) (wpAny_bind (wpAny_pure (wpAny_bind ?_)))
 refine wpAny_bind (wpAny_bind (wpAny_askSetting (wpAny_pure (wpAny_bind (wpAny_mkText (wpAny_bind (wpAny_loadPart hod ?_)))))))
 dsimp only
 have cz:(!ds.toArray.any (·.key.isStr name)&&ds.toArray.any (·.refKey))=false:=by
  rw [List.any_toArray,List.any_toArray]
  unfold getL at hl
  split at hl
  ·rename_i en he
   rw [List.any_eq_true.mpr ⟨en,List.mem_of_find?_eq_some he,List.find?_some he⟩];rfl
  ·split at hl
   ·exact Bool.noConfusion hl
   ·rename_i z;rw [Bool.not_eq_true] at z;rw [z,Bool.and_false]
 rw [aRefKeyMayBeTheName_at,cz]
 refine wpAny_updatePart hod ?_
 have e:=putName_dict name (PyData.keyHash w.params name) (.str name (t0+1)) v ds n
 have D':(hh0.update dx (Obj.putName name (PyData.keyHash w.params name) (.str name (t0+1)) v)).get? dx=some (dictOf (putL name (PyData.keyHash w.params name) (.str name (t0+1)) v ds) (putN name ds n)):=by
  rw [← e]
  exact Heap.get?_update_self _ hod (by rw [e];rfl)
 refine wpAny_bind (wpAny_lookBehind D' (pastItsLine_dict (by rw [List.size_toArray,sizeLine_eq];dsimp only at hz;lia)) ?_)
 exact wpAny_pure (h _ (Heap.SameBut.update ..) D')
end
section
variable {c:Cx} {A:Around} {sc:Scope} {env:Env} {ρ:Loc} {S S1 S2 S3:St}
theorem jiA (B:uD c) {σ:Sig} {h:Heap} (R:Rep c σ S h):c.K.In h:=B.K.keeps R.keep
theorem jmG (B:uD c) (O:mX c) {a:Str} (ha:a∈attrNames) {o r:AV} {x:Value} {b:Bool} (h:kG S o a=some r):Run c A S (getAttr x a b) S (fun σ h w=>VRel c σ h r w) (fun σ h=>VRel c σ h o x):=by
 refine bO h fun k ek h=>bO h fun p ep h=>?_
 obtain rfl:=y0 ek
 obtain ⟨cl,fs⟩:=p
 have hk:=jfZ ep
 refine Run.toks fun σ s Q E R V q=>?_
 refine kE V.ref' fun ad d q2q hσ=>?_;obtain rfl:=q2q
 ·
  refine xEA (R.sig hk) fun p hp OR=>?_
  rw [hσ] at hp;obtain rfl:=Option.some.inj hp
  refine jaV OR.inst' fun xx dx C ds n e1q g e1 e2 fr nd=>?_;refine xA (Prod.mk.inj e1q) fun q0q q1q=>?_;obtain rfl:=q0q;obtain rfl:=q1q
  ·
   have ok:=O cl g.1 C g.2 a ha
   unfold nX at ok
   simp only [Bool.and_eq_true] at ok
   refine xA ok fun q0q p6=>?_;obtain ⟨⟨⟨⟨p1,p2⟩,p3⟩,p4⟩,p5⟩:=q0q
   refine xEA (jwL fr h) fun w hw Vw=>?_
   have I:InstAt s.heap ad (instObj C dx) C (some (dictOf ds n)):=⟨e1,rfl,rfl,e2⟩
   split at p3
   ·rename_i at' hat
    exact get_value (jiA B R) I (plainGet_of p1).1 (findObj_own p2 hat p3 hw) (handed Vw) (q w _ Vw)
   ·exact Bool.noConfusion p3
noncomputable def zT:Expr→Bool
 | .Name _ _=>true
 | .Attribute _ _ _=>true
 | .Subscript _ _ _=>true
 | .Call _ as _ _=>!as.isEmpty
 | _=>false
theorem uI {o:Expr} {a:Str} {whole:Sem Value} (h:zT o=true):attributeBase o a env whole=whole:=by
 induction o using PySem.Expr.casesOn<;>first | exact Bool.noConfusion h | rfl | skip
 rename_i f as ks p
 induction as using List.casesOn<;>first | exact Bool.noConfusion h | induction f using PySem.Expr.casesOn<;>rfl
theorem jm7 {base:Expr} {o r:Value} {I:Sig→Heap→Prop}:Run c A S (letTemporaryGo base o r) S (fun _ _ _=>True) I:=Run.toks fun σ s Q E R i q=>wpAny_letTemporaryGo (q () s.toks trivial)
theorem jwM (B:uD c) (O:mX c) {o:Expr} {a:Str} {p:Pos} {v r:AV} (ho:Ev c A sc env o ρ S v S1) (hn:zT o=true) (ha:a∈attrNames) (h:kG S1 v a=some r):Ev c A sc env (.Attribute o a p) ρ S r S1:=by
 unfold Ev
 rw [arm_eval_Attribute,uI hn]
 exact RunC.bind LocRel.stab ho fun x=>RunC.at (RunC.bind (LocRel.stab.and Stab.vrel) (RunC.holding ((Run.lift (jmG B O ha h)).pre fun σ h _ i=>i.2)) fun w=>
  RunC.bind ((LocRel.stab.and Stab.vrel).and Stab.vrel) (Run.lift jm7) fun _=>RunC.pure fun σ h i=>i.1.2)
theorem jm1 (B:uD c) (O:mX c) {a:Str} (ha:a∈attrNames) {o v:AV} {x w:Value} (h:y6 S o a v=some S1):Run c A S (setAttr x a w) S1 (fun _ _ _=>True) (fun σ h=>VRel c σ h o x∧VRel c σ h v w):=by
 refine bO h fun k ek h=>bO h fun p ep h=>?_
 obtain rfl:=y0 ek
 obtain ⟨cl,fs⟩:=p
 have hk:=jfZ ep
 have hlen:=(jD h).1
 replace h:=(jD h).2
 obtain rfl:=Option.some.inj h
 intro σ s Q E R V q
 obtain ⟨V,W⟩:=V
 refine kE V.ref' fun ad d q2q hσ=>?_;obtain rfl:=q2q
 ·
  refine xEA (R.sig hk) fun p hp OR=>?_
  rw [hσ] at hp;obtain rfl:=Option.some.inj hp
  refine jaV OR.inst' fun xx dx C ds n e2q g e1 e2 fr nd=>?_;refine xA (Prod.mk.inj e2q) fun q0q q1q=>?_;obtain rfl:=q0q;obtain rfl:=q1q
  ·
   have ok:=O cl g.1 C g.2 a ha
   unfold nX at ok
   simp only [Bool.and_eq_true,beq_iff_eq] at ok
   refine xA ok fun q0q p6=>?_;obtain ⟨⟨⟨⟨p1,p2⟩,p3⟩,p4⟩,p5⟩:=q0q
   have I:InstAt s.heap ad (instObj C dx) C (some (dictOf ds n)):=⟨e1,rfl,rfl,e2⟩
   have fr2:=jwF (a:=a) (t:=s.toks+1) W fr
   refine jjL (dx:=dx) (jiA B R) I rfl p4 p5 p6 p2 (jq2 fr) ?_ fun h' hs hg=>?_
   ·have:=fr2.length
    have:=jaT (k:=a) (v:=v) (l:=fs)
    lia
   ·have nx:ad≠dx:=by
     rintro rfl
     replace e2:=e1▸e2
     cases e2
    obtain ⟨R',T⟩:=R.change (k:=k) (ao:=.inst cl (jA a v fs)) (d:=dx) hσ (.inr rfl) hs (jiQ e2 fun _ _ h=>nomatch h) fun tk=>by
     have fr3:=fr2.mono (more:=[]) tk
     rw [List.append_nil] at fr3
     exact .inst cl _ ad dx C _ _ g ((hs.2 ad nx).trans e1) hg fr3 (yG nd).1
    exact q σ h' _ () R' T trivial
end
end Mine
end
section
open PySem PySem.W PySem.Calls
namespace Mine
section
variable {prog:Program} {w:World} {A:Around} {E:Value→Shared→Prop} {s:Shared}
noncomputable abbrev IK (prog:Program) (w:World):KeyKind prog w Int:=intKind prog w
noncomputable def IsPairKey (prog:Program) (w:World) (h:Heap) (k:Int×List Int) (a:Addr):Prop:=
 ∃ o n t b,h.get? a=some o∧o.cls = .type "tuple"∧o.data = .seq #[.int k.1 t,.ref b] n∧IsTupleKey (IK prog w) h k.2 b
theorem IsPairKey.typeIs {k:Int×List Int} {a:Addr} (x:IsPairKey prog w s.heap k a):s.TypeIs (.ref a) "tuple":=vO x fun o _ _ _ ho hc _=>⟨o,ho,hc⟩
theorem IsPairKey.inj {h:Heap} {a:Addr} {x y:Int×List Int} (hx:IsPairKey prog w h x a) (hy:IsPairKey prog w h y a):x=y:=by
 refine jL hx fun o n t b ho _ hd hi=>?_
 refine jL hy fun o' n' t' b' ho' _ hd' hi'=>?_
 obtain rfl:o=o':=Option.some.inj (ho.symm.trans ho')
 rw [hd] at hd'
 simp only [Data.seq.injEq,Array.mk.injEq,List.cons.injEq,Value.int.injEq,Value.ref.injEq,and_true] at hd'
 obtain ⟨⟨⟨e1,_⟩,rfl⟩,_⟩:=hd'
 exact Prod.ext e1 (hi.inj hi')
theorem IsPairKey.keeps {h h':Heap} {k:Int×List Int} {a d:Addr} {o:Obj} {es ep} (x:IsPairKey prog w h k a) (ho:h.get? d=some o) (hd:o.data = .dict es ep) (hs:Heap.SameBut d h h'):IsPairKey prog w h' k a:=by
 refine jL x fun o' n t b ho' hc hd' hi=>?_
 have hne:a≠d:=by
  rintro rfl
  obtain rfl:o'=o:=Option.some.inj (ho'.symm.trans ho)
  rw [hd] at hd';exact nomatch hd'
 exact ⟨o',n,t,b,(hs.2 a hne).trans ho',hc,hd',hi.keeps ho hd hs⟩
noncomputable def gC (prog:Program) (w:World) (k:Int×List Int):Int:=reduceHash (Builtin.Tuple.tupleHashOf [(IK prog w).hash k.1,tupleKeyHash (IK prog w) k.2])
theorem jaA (z:Int) (t:Tok):(IK prog w).is z (.int z t)=true:=intKind_is prog w z t
theorem jb1 {k:Int×List Int} {a:Addr} {Q:Int→Shared→Prop} (hu:A.units+10 < cLine) (hk:IsPairKey prog w s.heap k a) (h:Q (gC prog w k) { s with toks:=s.toks+(k.2.length+3)}) :
  wpAny (model prog w) A (pyHash (.ref a)) Q E s:=by
 have hT:=hk.typeIs
 refine jL hk fun o n t b ho _ hd hi=>?_
 first | unfold pyHashByItsType | skip
 first | refine wpAny_bind (wpAny_cRoomFor_or (.inr (by lia)) ?_) | skip
 refine wpAny_bind (wpAny_specialOf hT F.slot_tuple_hash.lookup ?_)
 rw [if_neg (by rw [beq_builtin_none];exact Bool.false_ne_true)]
 refine wpAny_bind (wpAny_specialOf hT F.slot_tuple_hash.lookup ?_)
 refine wpAny_bind (wpAny_callSpecialIfBoundUnlessNone?_slot hT F.slot_tuple_hash (wpAny_call_entry F.slot_tuple_hash hT F.entry_tuple_hash ?_ (F.args_tuple_hash_1 _)))
 show wpAny _ _ (Builtin.Tuple.tupleItemsOf (.ref a) >>= _) _ _ s
 refine wpAny_bind (wpAny_tupleItemsOf ho hd ?_)
 refine wpAny_bind ?_
 rw [← Array.forIn_toList]
 rw [List.forIn_cons]
 refine wpAny_bind (wpAny_bind ((IK prog w).pyHash (jaA k.1 t) ?_))
 first | refine wpAny_pure ?_ | refine wpAny_bind (wpAny_pure (wpAny_pure ?_))
 dsimp only
 rw [List.forIn_cons]
 refine wpAny_bind (wpAny_bind (wpAny_pyHash_tuple (knd:=IK prog w) (ks:=k.2) ?_ hi ?_))
 ·show (Around.in1 A).units < cLine
  show A.units+1 < cLine
  lia
 first | refine wpAny_pure ?_ | refine wpAny_bind (wpAny_pure (wpAny_pure ?_))
 dsimp only
 rw [List.forIn_nil]
 refine wpAny_pure ?_
 show wpAny _ _ (retInt (Builtin.Tuple.tupleHashOf [(IK prog w).hash k.1,tupleKeyHash (IK prog w) k.2])) _ _ _
 refine wpAny_ret_mkInt ?_
 show wpAny _ _ (if (decide (-(2:Int)^63≤Builtin.Tuple.tupleHashOf [(IK prog w).hash k.1,tupleKeyHash (IK prog w) k.2])&&decide (Builtin.Tuple.tupleHashOf [(IK prog w).hash k.1,tupleKeyHash (IK prog w) k.2] < 2^63))=true then _ else _) Q E _
 unfold gC reduceHash at h
 have et:s.toks+1+(k.2.length+1)+1=s.toks+(k.2.length+3):=by lia
 by_cases hr:(decide (-(2:Int)^63≤Builtin.Tuple.tupleHashOf [(IK prog w).hash k.1,tupleKeyHash (IK prog w) k.2])&&decide (Builtin.Tuple.tupleHashOf [(IK prog w).hash k.1,tupleKeyHash (IK prog w) k.2] < 2^63))=true
 ·rw [if_pos hr]
  rw [if_pos hr] at h
  exact wpAny_pure (by simpa only [et] using h)
 ·rw [if_neg hr]
  rw [if_neg hr] at h
  exact wpAny_bind (wpAny_rule (wpAny_pure (by simpa only [et] using h)))
theorem jhT {x y:Int×List Int} {a b:Addr} {P:Fin→Shared→Prop} (hu:A.units+6 < cLine) (hx:IsPairKey prog w s.heap x a) (hy:IsPairKey prog w s.heap y b) (h:P (.done (.ret (.bool (decide (x=y))))) s) :
  wpAny (model prog w) A (Builtin.«tuple.__eq__» ⟨[.ref a,.ref b],[]⟩) P E s:=by
 have hTb:=hy.typeIs
 refine jL hx fun oa na ta ba hoa _ hda hia=>?_
 refine jL hy fun ob nb tb bb hob _ hdb hib=>?_
 show wpAny _ _ (isInstance (.ref b) (.type "tuple") >>= _) _ _ s
 refine wpAny_bind (wpAny_isInstance hTb isSubtype_tuple_tuple ?_)
 dsimp only [Bool.not_true,Bool.false_eq_true,if_false]
 refine wpAny_bind (wpAny_tupleItemsOf hoa hda ?_)
 refine wpAny_bind (wpAny_tupleItemsOf hob hdb ?_)
 refine wpAny_bind ?_
 show wpAny _ _ (forIn [(Value.int x.1 ta,Value.int y.1 tb),(Value.ref ba,Value.ref bb)] _ _) _ _ s
 rw [List.forIn_cons]
 refine wpAny_bind (wpAny_bind ((IK prog w).eqBool (a:=x.1) (b:=y.1) (jaA _ _) (jaA _ _) ?_))
 by_cases h1:x.1=y.1
 ·rw [decide_eq_true h1]
  simp only [Bool.not_true,Bool.false_eq_true,if_false]
  refine wpAny_pure ?_
  dsimp only
  rw [List.forIn_cons]
  refine wpAny_bind (wpAny_bind (wpAny_eqBool_tuple (x:=x.2) (y:=y.2) (by lia) hia hib ?_))
  by_cases h2:x.2=y.2
  ·rw [decide_eq_true h2]
   simp only [Bool.not_true,Bool.false_eq_true,if_false]
   refine wpAny_pure ?_
   dsimp only
   rw [List.forIn_nil]
   refine wpAny_pure (wpAny_pure ?_)
   have:x=y:=Prod.ext h1 h2
   rw [decide_eq_true this] at h
   exact h
  ·rw [decide_eq_false h2]
   simp only [Bool.not_false,if_true]
   have:¬ x=y:=fun e=>h2 (by rw [e])
   rw [decide_eq_false this] at h
   exact wpAny_bind (wpAny_pure (wpAny_pure (wpAny_pure (wpAny_pure h))))
 ·rw [decide_eq_false h1]
  simp only [Bool.not_false,if_true]
  have:¬ x=y:=fun e=>h1 (by rw [e])
  rw [decide_eq_false this] at h
  exact wpAny_bind (wpAny_pure (wpAny_pure (wpAny_pure (wpAny_pure h))))
theorem jk7 {x y:Int×List Int} {a b:Addr} {Q:Bool→Shared→Prop} (hu:A.units+10 < cLine) (hx:IsPairKey prog w s.heap x a) (hy:IsPairKey prog w s.heap y b) (h:Q (decide (x=y)) s) :
  wpAny (model prog w) A (eqBool (.ref a) (.ref b)) Q E s:=by
 unfold eqBool
 try with_reducible refine wpAny_holding ?_
 show wpAny _ _ (if (Value.ref a==Value.ref b)=true then _ else _) Q E s
 by_cases hab:(Value.ref a==Value.ref b)=true
 ·rw [if_pos hab]
  have e:a=b:=by have:=eq_of_beq hab;injection this
  subst e
  obtain rfl:=hx.inj hy
  exact wpAny_bind (wpAny_rule (wpAny_pure (by simpa using h)))
 ·rw [if_neg hab]
  refine wpAny_bind (wpAny_richCompare_same_room (op:=.Eq) hx.typeIs hy.typeIs F.slot_tuple_eq
   (wpAny_call_entry F.slot_tuple_eq hx.typeIs F.entry_tuple_eq (jhT ?_ hx hy ⟨_,rfl,(fun e=>nomatch e),wpAny_truthy_bool h⟩) (F.args_tuple_eq_2 _ _)) (by lia))
  show A.units+1+6 < cLine
  lia
theorem jjX {ks:List Int} {a:Addr} {n:Nat} {Q:Bool→Shared→Prop} (hk:IsTupleKey (IK prog w) s.heap ks a) (h:Q true s):wpAny (model prog w) A (eqIsQuiet (n+1) (.ref a)) Q E s:=by
 have hT:=hk.typeIs
 refine jhM hk fun o items m ho _ hd hi=>?_
 unfold eqIsQuiet
 refine wpAny_bind (wpAny_specialOf hT F.slot_tuple_eq.lookup ?_)
 refine wpAny_bind (wpAny_isInstance hT isSubtype_tuple_tuple ?_)
 refine wpAny_bind (wpAny_seqItems ho hd ?_)
 refine wpAny_bind ?_
 rw [← Array.forIn_toList]
 refine wpAny_forIn_list _ (fun rest r s'=>r.1=none∧s'=s∧∀ v∈rest,carriedByValue v=true) _ ?_ ?_ _ _ ⟨rfl,rfl,hi.byValue⟩
 ·rintro v rest r s' ⟨hr,rfl,hall⟩
  rw [eqIsQuiet_byValue _ (hall v List.mem_cons_self)]
  refine wpAny_bind (wpAny_pure ?_)
  simp only [Bool.not_true,Bool.false_eq_true,if_false]
  exact wpAny_pure ⟨rfl,rfl,fun u hu'=>hall u (List.mem_cons_of_mem _ hu')⟩
 ·rintro ⟨r1,r2⟩ s' ⟨hr,rfl,_⟩
  simp only at hr
  subst hr
  exact wpAny_pure h
theorem joG {k:Int×List Int} {a:Addr} {Q:Bool→Shared→Prop} (hk:IsPairKey prog w s.heap k a) (h:Q true s):wpAny (model prog w) A (eqIsQuiet 8 (.ref a)) Q E s:=by
 have hT:=hk.typeIs
 refine jL hk fun o m t b ho _ hd hi=>?_
 unfold eqIsQuiet
 refine wpAny_bind (wpAny_specialOf hT F.slot_tuple_eq.lookup ?_)
 refine wpAny_bind (wpAny_isInstance hT isSubtype_tuple_tuple ?_)
 dsimp only [Bool.not_true,Bool.false_eq_true,if_false]
 refine wpAny_bind (wpAny_seqItems ho hd ?_)
 refine wpAny_bind ?_
 rw [← Array.forIn_toList]
 show wpAny _ _ (forIn [Value.int k.1 t,Value.ref b] _ _) _ _ s
 rw [List.forIn_cons,eqIsQuiet_byValue _ rfl]
 refine wpAny_bind (wpAny_bind (wpAny_pure ?_))
 simp only [Bool.not_true,Bool.false_eq_true,if_false]
 refine wpAny_pure ?_
 dsimp only
 rw [List.forIn_cons]
 refine wpAny_bind (wpAny_bind (jjX hi ?_))
 simp only [Bool.not_true,Bool.false_eq_true,if_false]
 refine wpAny_pure ?_
 dsimp only
 rw [List.forIn_nil]
 exact wpAny_pure (wpAny_pure h)
end
noncomputable def jtR (prog:Program) (w:World):HeapKind prog w (Int×List Int) where
 is:=IsPairKey prog w
 hash:=gC prog w
 draws:=fun k=>k.2.length+3
 room:=fun A=>A.units+10 < cLine
 inj:=fun hx hy=>hx.inj hy
 keeps:=fun x ho hd hs=>x.keeps ho hd hs
 pyHash:=fun hu hk h=>jb1 hu hk h
 eqBool:=fun hu hx hy h=>jk7 hu hx hy h
 quiet:=fun hk h=>joG hk h
end Mine
end
section
open PySem PySem.W PyProof.Rows PySem.Calls
namespace Mine
noncomputable def placeOf (es:List (AV×AV)) (k:AV):Option Nat:=es.findIdx? fun e=>decide (e.1=k)
theorem vD:∀ {xs:List AV},xs.all yP=true→(yA xs).map AV.int=xs
 | [],_=>rfl
 | .int i::r,h=>by
  rw [List.all_cons,Bool.and_eq_true] at h
  simp [yA,vD h.2]
 | .none::_,h=>by exact nomatch h
 | .bool _::_,h=>by simp [yP] at h
 | .str _::_,h=>by simp [yP] at h
 | .bytes _::_,h=>by simp [yP] at h
 | .tup _::_,h=>by simp [yP] at h
 | .ref _::_,h=>by simp [yP] at h
 | .fn _::_,h=>by simp [yP] at h
theorem jsN {c:Cx} {σ:Sig} {h:Heap} {xs:List AV} {vs:List Value} (V:VRels c σ h xs vs):xs.all yP=true→ItemsAre (IK c.prog c.w) (yA xs) vs:=
 V.ind (P:=fun xs vs=>xs.all yP=true→ItemsAre (IK c.prog c.w) (yA xs) vs) (fun _=>.nil) fun x v xs vs V _ ih ha=>(jr6 (j4 ha).1).elim fun i e=>by
  subst e
  exact xE V.int' fun t q=>q▸.cons (intKind_is _ _ _ _) (ih (j4 ha).2)
theorem key3 {c:Cx} {σ:Sig} {h:Heap} {xs:List AV} {v:Value} (V:VRel c σ h (.tup xs) v) (ha:xs.all yP=true):∃ a,v = .ref a∧IsTupleKey (IK c.prog c.w) h (yA xs) a:=by
 refine jB V.tup' fun a vs q2q t r=>?_;obtain rfl:=q2q
 ·
  refine jeU t fun o e hc n hd=>?_
  exact ⟨a,rfl,o,vs.toArray,n,e,hc,hd,by exact jsN r ha⟩
theorem key4 {c:Cx} {σ:Sig} {h:Heap} {z:Int} {ys:List AV} {v:Value} (V:VRel c σ h (.tup [.int z,.tup ys]) v) (ha:ys.all yP=true):∃ a,v = .ref a∧IsPairKey c.prog c.w h (z,yA ys) a:=by
 refine jB V.tup' fun a vs q2q t r=>?_;obtain rfl:=q2q
 ·
  refine jeU t fun o e hc n hd=>?_
  refine jB r.cons' fun _ _ q2q V1 r1=>?_;obtain rfl:=q2q
  ·
   refine jB r1.cons' fun _ _ q2q V2 r2=>?_;obtain rfl:=q2q
   ·
    obtain rfl:=r2.nil'
    obtain ⟨t1,rfl⟩:=V1.int'
    ·
     refine xEA (key3 V2 ha) fun b q1q hk=>?_;obtain rfl:=q1q
     exact ⟨a,rfl,o,n,t1,b,e,hc,hd,hk⟩
theorem jgB (k:AV):j7 k=0∨j7 k=1∨j7 k=2∨j7 k=3∨j7 k=4:=by
 unfold j7
 split
 ·simp
 ·simp
 ·split
  ·split<;>simp
  ·split<;>simp
 ·simp
theorem jc6 {k:AV} (h:j7 k=1):∃ i,k = .int i:=by
 unfold j7 at h
 split at h
 ·exact ⟨_,rfl⟩
 ·obtain ⟨_,e1q,e2q⟩:=Nat.succ.inj h
 ·split at h
  ·split at h<;>cases h
  ·split at h<;>cases h
 ·cases h
theorem jc1 {k:AV} (h:j7 k=2):∃ i,k = .str i:=by
 unfold j7 at h
 split at h
 ·obtain ⟨_,e3q,e4q⟩:=Nat.succ.inj h
 ·exact ⟨_,rfl⟩
 ·split at h
  ·split at h<;>cases h
  ·split at h<;>cases h
 ·cases h
theorem jc5 {c:Cx} {k:AV} (h:j7 k=3):∃ xs,k = .tup xs∧xs.all yP=true∧yV c k=tupleKeyHash (IK c.prog c.w) (yA xs):=by
 unfold j7 at h
 split at h
 ·obtain ⟨_,e5q,e6q⟩:=Nat.succ.inj h
 ·obtain ⟨_,e7q,e8q⟩:=Nat.succ.inj h
 ·rename_i xs
  split at h
  ·split at h<;>cases h
  ·rename_i hne
   split at h
   ·rename_i ha
    refine ⟨xs,rfl,ha,?_⟩
    unfold yV
    dsimp only
    split
    ·rename_i z ys
     exact (hne z ys rfl).elim
    ·rfl
   ·cases h
 ·cases h
theorem jc2 {c:Cx} {k:AV} (h:j7 k=4):∃ z ys,k = .tup [.int z,.tup ys]∧ys.all yP=true∧yV c k=gC c.prog c.w (z,yA ys):=by
 unfold j7 at h
 split at h
 ·obtain ⟨_,e9q,e10q⟩:=Nat.succ.inj h
 ·obtain ⟨_,e11q,e12q⟩:=Nat.succ.inj h
 ·split at h
  ·rename_i z ys
   split at h
   ·rename_i ha
    refine ⟨z,ys,rfl,ha,?_⟩
    delta yV gC
    dsimp only
    rw [if_pos ha]
   ·cases h
  ·split at h<;>cases h
 ·cases h
theorem jdY {c:Cx} {σ:Sig} {A:Around} {k:AV} {kv:Value} {s:Shared} {Q:Int→Shared→Prop} {E:Value→Shared→Prop} (hu:A.units+12 < cLine) (hf:j7 k≠0) (V:VRel c σ s.heap k kv)
  (h:∀ t',Q (yV c k) { s with toks:=t' }):wpAny (model c.prog c.w) A (pyHash kv) Q E s:=by
 rcases jgB k with e | e | e | e | e
 ·exact (hf e).elim
 ·refine xE (jc6 e) fun i q1q=>?_;obtain rfl:=q1q
  obtain ⟨t,rfl⟩:=V.int'
  ·exact (intKind c.prog c.w).pyHash (intKind_is _ _ _ _) (h _)
 ·refine xE (jc1 e) fun i q1q=>?_;obtain rfl:=q1q
  refine xE V.str' fun t q1q=>?_;obtain rfl:=q1q
  ·exact (PySem.strKind c.prog c.w).pyHash (k:=i) (by simp [PySem.strKind,Value.isStrOf]) (h _)
 ·refine yJ (jc5 (c:=c) e) fun xs q1q ha eh=>?_;obtain rfl:=q1q
  refine xEA (key3 V ha) fun a q1q hk=>?_;obtain rfl:=q1q
  replace h:=eh▸h
  exact wpAny_pyHash_tuple (by lia) hk (h _)
 ·refine jB (jc2 (c:=c) e) fun z ys q2q ha eh=>?_;obtain rfl:=q2q
  refine xEA (key4 V ha) fun a q1q hk=>?_;obtain rfl:=q1q
  rw [eh] at h
  exact jb1 (by lia) hk (h _)
section
variable {c:Cx} {σ:Sig} {A:Around} {s:Shared} {E:Value→Shared→Prop} {Q:Option Nat→Shared→Prop} {d:Addr} {ds:List DictEntry} {ep:Nat} {es:List (AV×AV)} {k:AV} {kv:Value}
theorem jg1 {K:Type} [DecidableEq K] (knd:KeyKind c.prog c.w K) (dec:AV→K) (f:Nat) (hfl:∀ e∈es,j7 e.1=f) (hkf:j7 k=f)
  (dinj:∀ a b,j7 a=f→j7 b=f→dec a=dec b→a=b) (ok:∀ a v,j7 a=f→VRel c σ s.heap a v→knd.is (dec a) v=true∧yV c a=knd.hash (dec a))
  (V:VRel c σ s.heap k kv) (ho:s.heap.get? d=some ⟨.type "dict",none,.dict ds.toArray ep,#[]⟩) (he:ERels c σ s.heap (yV c) es ds) (h:Q (placeOf es k) s) :
  wpAny (model c.prog c.w) A (dictFind d kv (yV c k)) Q E s:=by
 rw [(ok k kv hkf V).2]
 refine wpAny_dictFind_of (knd:=knd) (ok k kv hkf V).1 ho rfl ?_ ?_
 ·intro e hm
  rw [List.mem_toArray] at hm
  clear ho h
  induction he with
  | nil=>cases hm
  | cons V1 V2 r ih=>
   rcases List.mem_cons.mp hm with rfl | hm
   ·have:=ok _ _ (hfl _ (.head _)) V1
    exact ⟨_,this.1,this.2⟩
   ·exact ih (fun e he=>hfl e (.tail _ he)) hm
 ·have:(ds.toArray.findIdx? fun e=>knd.is (dec k) e.key)=placeOf es k:=by
   rw [List.findIdx?_toArray]
   unfold placeOf
   clear ho h
   induction he with
   | nil=>rfl
   | cons V1 V2 r ih=>
    rw [List.findIdx?_cons,List.findIdx?_cons,ih (fun e he=>hfl e (.tail _ he))]
    have o1:=ok _ _ (hfl _ (.head _)) V1
    rw [knd.is_eq_decide o1.1]
    have:decide (dec k=dec _)=decide (_=k):=decide_eq_decide.mpr ⟨fun e=>(dinj _ _ hkf (hfl _ (.head _)) e).symm,fun e=>by rw [e]⟩
    rw [this]
  rw [this]
  exact h
theorem jh2 {K:Type} [DecidableEq K] (knd:HeapKind c.prog c.w K) (hr:knd.room A) (dec:AV→K) (f:Nat) (hfl:∀ e∈es,j7 e.1=f) (hkf:j7 k=f)
  (dinj:∀ a b,j7 a=f→j7 b=f→dec a=dec b→a=b) (ok:∀ a v,j7 a=f→VRel c σ s.heap a v→∃ b,v = .ref b∧knd.is s.heap (dec a) b∧yV c a=knd.hash (dec a))
  (V:VRel c σ s.heap k kv) (ho:s.heap.get? d=some ⟨.type "dict",none,.dict ds.toArray ep,#[]⟩) (he:ERels c σ s.heap (yV c) es ds) (hn:(es.map (·.1)).Nodup) (h:Q (placeOf es k) s) :
  wpAny (model c.prog c.w) A (dictFind d kv (yV c k)) Q E s:=by
 refine yJ (ok k kv hkf V) fun a q1q hk eh=>?_;obtain rfl:=q1q
 rw [eh]
 have key:∃ xs:List (K×Addr×Value),ds=xs.map (entryOfKey knd)∧(∀ x∈xs,knd.is s.heap x.1 x.2.1)∧xs.map (·.1)=es.map fun e=>dec e.1:=by
  clear ho h hn
  induction he with
  | nil=>exact ⟨[],rfl,fun _ h=>(nomatch h),rfl⟩
  | @cons k' v' kv' vv' _ _ V1 V2 r ih=>
   refine yJ (ih (fun e he=>hfl e (.tail _ he))) fun xs e1 e2 e3=>?_
   refine yJ (ok _ _ (hfl _ (.head _)) V1) fun b q1q o1 o2=>?_;obtain rfl:=q1q
   refine ⟨(dec k',b,vv')::xs,?_,?_,?_⟩
   ·rw [List.map_cons,← e1,o2];rfl
   ·intro x hx
    rcases List.mem_cons.mp hx with rfl | hx
    ·exact o1
    ·exact e2 x hx
   ·rw [List.map_cons,List.map_cons,e3]
 obtain ⟨xs,e1,e2,e3⟩:=key
 have nd:(xs.map (·.1)).Nodup:=by
  rw [e3]
  clear e1 e2 e3 he ho h
  induction es with
  | nil=>exact List.nodup_nil
  | cons x r ih=>
   rw [List.map_cons,List.nodup_cons] at hn ⊢
   refine ⟨fun hm=>?_,ih (fun e he=>hfl e (.tail _ he)) hn.2⟩
   refine xEA (List.mem_map.mp hm) fun y hy e=>?_
   have:=dinj _ _ (hfl y (.tail _ hy)) (hfl x (.head _)) e
   exact hn.1 (this▸List.mem_map.mpr ⟨y,hy,rfl⟩)
 have pt:∀ j:Nat,(xs[j]?).map (·.1)=(es[j]?).map fun e=>dec e.1:=fun j=>by
  rw [← List.getElem?_map,← List.getElem?_map,e3]
 refine wpAny_dictFind_heap hr hk ho rfl (by exact e1) e2 nd (fun hno=>?_) fun j p hj=>?_
 ·have:placeOf es k=none:=by
   unfold placeOf
   rw [List.findIdx?_eq_none_iff]
   intro x hx
   rw [decide_eq_false_iff_not]
   rintro rfl
   obtain ⟨j,hj⟩:=List.mem_iff_getElem?.mp hx
   have:=pt j
   rw [hj] at this
   cases hxj:xs[j]? with
   | none=>replace this:=hxj▸this;exact j0 this
   | some y=>
    rw [hxj] at this
    obtain ⟨y1,y2⟩:=y
    simp at this
    exact hno j y2 (by rw [hxj,this])
  replace h:=this▸h
  exact h
 ·have:placeOf es k=some j:=by
   unfold placeOf
   have pj:=pt j
   rw [hj] at pj
   cases hej:es[j]? with
   | none=>rw [hej] at pj;exact j0 pj.symm
   | some y=>
    rw [hej] at pj
    simp at pj
    obtain ⟨jl,jy⟩:=List.getElem?_eq_some_iff.mp hej
    have hy:y.1=k:=(dinj _ _ hkf (hfl y (List.mem_of_getElem? hej)) pj).symm
    rw [List.findIdx?_eq_some_iff_getElem]
    refine ⟨jl,by rw [jy];exact decide_eq_true hy,fun i hi=>?_⟩
    rw [Bool.not_eq_true,decide_eq_false_iff_not]
    intro e
    have pw:=List.pairwise_iff_getElem.mp hn i j (by rw [List.length_map];lia) (by rw [List.length_map];exact jl) hi
    rw [List.getElem_map,List.getElem_map,e,jy,hy] at pw
    exact pw rfl
  rw [this] at h
  exact h
theorem gW (hu:A.units+12 < cLine) (hf:j7 k≠0) (hfl:∀ e∈es,j7 e.1=j7 k) (V:VRel c σ s.heap k kv)
  (ho:s.heap.get? d=some ⟨.type "dict",none,.dict ds.toArray ep,#[]⟩) (he:ERels c σ s.heap (yV c) es ds) (hn:(es.map (·.1)).Nodup) (h:Q (placeOf es k) s) :
  wpAny (model c.prog c.w) A (dictFind d kv (yV c k)) Q E s:=by
 rcases jgB k with e | e | e | e | e
 ·exact (hf e).elim
 ·replace hfl:=e▸hfl
  refine jg1 (intKind c.prog c.w) (fun a=>match a with | .int i=>i | _=>0) 1 hfl e ?_ ?_ V ho he h
  ·intro a b ha hb q
   refine xE (jc6 ha) fun i q1q=>?_;obtain rfl:=q1q
   refine xE (jc6 hb) fun j q1q=>?_;obtain rfl:=q1q
   exact congrArg _ q
  ·intro a v ha V
   refine xE (jc6 ha) fun i q1q=>?_;obtain rfl:=q1q
   obtain ⟨t,rfl⟩:=V.int'
   ·exact ⟨intKind_is _ _ _ _,rfl⟩
 ·rw [e] at hfl
  refine jg1 (PySem.strKind c.prog c.w) (fun a=>match a with | .str i=>i | _=>"") 2 hfl e ?_ ?_ V ho he h
  ·intro a b ha hb q
   refine xE (jc1 ha) fun i q1q=>?_;obtain rfl:=q1q
   refine xE (jc1 hb) fun j q1q=>?_;obtain rfl:=q1q
   exact congrArg _ q
  ·intro a v ha V
   refine xE (jc1 ha) fun i q1q=>?_;obtain rfl:=q1q
   obtain ⟨t,rfl⟩:=V.str'
   ·exact ⟨by simp [PySem.strKind,Value.isStrOf],rfl⟩
 ·rw [e] at hfl
  refine jh2 (tupleKind (IK c.prog c.w)) (show A.units < cLine by lia) (fun a=>match a with | .tup xs=>yA xs | _=>[]) 3 hfl e ?_ ?_ V ho he hn h
  ·intro a b ha hb q
   refine yJ (jc5 (c:=c) ha) fun x q1q hx _=>?_;obtain rfl:=q1q
   refine yJ (jc5 (c:=c) hb) fun y q1q hy _=>?_;obtain rfl:=q1q
   have q:yA x=yA y:=q
   rw [← vD hx,← vD hy,q]
  ·intro a v ha V
   refine yJ (jc5 (c:=c) ha) fun x q1q hx eh=>?_;obtain rfl:=q1q
   refine xEA (key3 V hx) fun b q1q hb=>?_;obtain rfl:=q1q
   exact ⟨b,rfl,hb,eh⟩
 ·rw [e] at hfl
  refine jh2 (jtR c.prog c.w) (show A.units+10 < cLine by lia) (fun a=>match a with | .tup [.int z,.tup ys]=>(z,yA ys) | _=>(0,[])) 4 hfl e ?_ ?_ V ho he hn h
  ·intro a b ha hb q
   refine jB (jc2 (c:=c) ha) fun z x q2q hx _=>?_;obtain rfl:=q2q
   refine jB (jc2 (c:=c) hb) fun u y q2q hy _=>?_;obtain rfl:=q2q
   have q:(z,yA x)=(u,yA y):=q
   rw [Prod.mk.injEq] at q
   rw [← vD hx,← vD hy,q.1,q.2]
  ·intro a v ha V
   refine jB (jc2 (c:=c) ha) fun z x q2q hx eh=>?_;obtain rfl:=q2q
   refine xEA (key4 V hx) fun b q1q hb=>?_;obtain rfl:=q1q
   exact ⟨b,rfl,hb,eh⟩
end
theorem vE:∀ {es:List (AV×AV)} {k v:AV},j6 k es=some v→∃ j,placeOf es k=some j∧es[j]? = some (k,v)
 | [],_,_,h=>by exact j0 h
 | (x,w)::r,k,v,h=>by
  unfold j6 at h
  unfold placeOf
  rw [List.findIdx?_cons]
  by_cases q:x=k
  ·rw [if_pos q] at h
   obtain rfl:=Option.some.inj h
   subst q
   exact ⟨0,by simp,rfl⟩
  ·rw [if_neg q] at h
   refine xEA (vE h) fun j e1 e2=>?_
   refine ⟨j+1,?_,e2⟩
   unfold placeOf at e1
   simp [q,e1]
theorem z7:∀ {es:List (AV×AV)} {k:AV},j6 k es=none→placeOf es k=none∧k ∉ es.map (·.1)
 | [],_,_=>⟨rfl,by simp⟩
 | (x,w)::r,k,h=>by
  unfold j6 at h
  unfold placeOf
  rw [List.findIdx?_cons]
  by_cases q:x=k
  ·rw [if_pos q] at h
   exact j0 h.symm
  ·rw [if_neg q] at h
   refine xA (z7 h) fun e1 e2=>?_
   unfold placeOf at e1
   refine ⟨by simp [q,e1],?_⟩
   rw [List.map_cons,List.mem_cons,not_or]
   exact ⟨fun e=>q e.symm,e2⟩
theorem ERels.at {c:Cx} {σ:Sig} {h:Heap} {hash:AV→Int} {es:List (AV×AV)} {ds:List DictEntry} (V:ERels c σ h hash es ds):∀ {j:Nat} {k v:AV},es[j]? = some (k,v)→
  ∃ kv vv,ds[j]? = some ⟨hash k,kv,vv⟩∧VRel c σ h k kv∧VRel c σ h v vv:=by
 induction V with
 | nil=>exact fun e=>nomatch e
 | cons a b r ih=>
  intro j k v e
  rcases j with _ | j
  ·obtain ⟨rfl,rfl⟩:=Prod.mk.inj (Option.some.inj e)
   exact ⟨_,_,rfl,a,b⟩
  ·exact ih e
theorem ERels.length {c:Cx} {σ:Sig} {h:Heap} {hash:AV→Int} {es:List (AV×AV)} {ds:List DictEntry} (V:ERels c σ h hash es ds):es.length=ds.length:=by
 induction V with
 | nil=>rfl
 | cons _ _ _ ih=>exact congrArg Nat.succ ih
end Mine
end
section
open PySem PySem.W PyProof.Rows PySem.Calls
namespace Mine
section
variable {c:Cx} {A:Around} {sc:Scope} {env:Env} {ρ:Loc} {S S1 S2 S3:St} {P:Prg} {σ:Sig} {h:Heap}
structure DictAt (c:Cx) (σ:Sig) (h:Heap) (k:Nat) (d:Addr) (fl:Nat) (es:List (AV×AV)) (ep:Nat) (ds:List DictEntry):Prop where
 sig:σ[k]? = some (d,none)
 get:h.get? d=some ⟨.type "dict",none,.dict ds.toArray ep,#[]⟩
 rel:ERels c σ h (yV c) es ds
 nd:(es.map (·.1)).Nodup
 fls:∀ k∈es,j7 k.1≠0∧j7 k.1=fl
 old:c.H0.get? d=none
theorem Rep.dict {k:Nat} {fl:Nat} {es:List (AV×AV)} {ep:Nat} {x:Value} (R:Rep c σ S h) (V:VRel c σ h (.ref k) x) (hS:S[k]? = some (.dict fl es ep)):∃ d ds,x = .ref d∧DictAt c σ h k d fl es ep ds:=by
 refine kE V.ref' fun a p q2q hσ=>?_;obtain rfl:=q2q
 ·
  refine xEA (R.sig hS) fun q hq OR=>?_
  rw [hσ] at hq;obtain rfl:=Option.some.inj hq
  refine jxI OR.dict' fun _ ds e7q e r n f=>?_;refine xA (Prod.mk.inj e7q) fun q0q q1q=>?_;obtain rfl:=q0q;obtain rfl:=q1q
  ·exact ⟨a,ds,rfl,hσ,e,r,n,f,R.fresh a (jd1 hσ).1⟩
theorem DictAt.sys {k:Nat} {d:Addr} {fl:Nat} {es:List (AV×AV)} {ep:Nat} {ds:List DictEntry} (D:DictAt c σ h k d fl es ep ds) (hs:∃ o,c.H0.get? sysModules=some o):(d==sysModules)=false:=by
 rw [beq_eq_false_iff_ne]
 rintro rfl
 refine xE hs fun o e=>?_
 have:=D.old
 rw [e] at this;exact j0 this.symm
theorem DictAt.flav {k:Nat} {d:Addr} {fl:Nat} {es:List (AV×AV)} {ep:Nat} {ds:List DictEntry} {i:AV} (D:DictAt c σ h k d fl es ep ds) (hf:j7 i≠0) (hfl:fl=0∨fl=j7 i):∀ e∈es,j7 e.1=j7 i:=by
 intro e he
 refine xA (D.fls e he) fun a b=>?_
 rcases hfl with q | q
 ·exact (a (b.trans q)).elim
 ·exact b.trans q
theorem DictAt.typeIs {k:Nat} {d:Addr} {fl:Nat} {es:List (AV×AV)} {ep:Nat} {ds:List DictEntry} {s:Shared} (D:DictAt c σ s.heap k d fl es ep ds):s.TypeIs (.ref d) "dict":=⟨_,D.get,rfl⟩
theorem tR {s:Shared} {Q:Option Value→Shared→Prop} {E:Value→Shared→Prop} {k:Nat} {d:Addr} {fl:Nat} {es:List (AV×AV)} {ep:Nat} {ds:List DictEntry} {i:AV} {iv:Value} (D:DictAt c σ s.heap k d fl es ep ds)
  (V:VRel c σ s.heap i iv) (hu:A.units+12 < cLine) (hf:j7 i≠0) (hfl:fl=0∨fl=j7 i) (q:∀ r t',ORel? c σ s.heap (j6 i es) r→Q r { s with toks:=t' }):wpAny (model c.prog c.w) A (dictGet d iv) Q E s:=by
 unfold dictGet
 try with_reducible refine wpAny_holding ?_
 refine wpAny_bind (jdY hu hf V fun t'=>wpAny_bind (gW (s:={ s with toks:=t' }) hu hf (D.flav hf hfl) V D.get D.rel D.nd ?_))
 cases hg:j6 i es with
 | none=>
  rw [(z7 hg).1]
  exact wpAny_pure (q none t' (by rw [hg];exact .none))
 | some v=>
  refine xEA (vE hg) fun j e1 e2=>?_
  rw [e1]
  refine wpAny_bind (wpAny_dictEntries (s:={ s with toks:=t' }) D.get rfl ?_)
  refine jB (D.rel.at e2) fun kv vv e3 v1 v2=>?_
  refine wpAny_pure ?_
  have:(ds.toArray[j]?).map (·.val)=some vv:=by rw [List.getElem?_toArray,e3];rfl
  rw [this]
  exact q _ t' (by rw [hg];exact .some v2)
theorem ERels.push {hash:AV→Int} {es:List (AV×AV)} {ds:List DictEntry} (V:ERels c σ h hash es ds) {k v:AV} {kv vv:Value} (a:VRel c σ h k kv) (b:VRel c σ h v vv):ERels c σ h hash (es++[(k,v)]) (ds++[⟨hash k,kv,vv⟩]):=by
 induction V with
 | nil=>exact .cons a b .nil
 | cons x y _ ih=>exact .cons x y ih
theorem ju8 {x u k v:AV} {es:List (AV×AV)} (q:x=k):jA k v ((x,u)::es)=(x,v)::es:=if_pos q
theorem juG {x u k v:AV} {es:List (AV×AV)} (q:¬ x=k):jA k v ((x,u)::es)=(x,u)::jA k v es:=if_neg q
theorem ju0 {x u k:AV} {es:List (AV×AV)} (q:x=k):yS k ((x,u)::es)=es:=if_pos q
theorem juH {x u k:AV} {es:List (AV×AV)} (q:¬ x=k):yS k ((x,u)::es)=(x,u)::yS k es:=if_neg q
theorem jcM {x u k:AV} {es:List (AV×AV)} {j:Nat} {P:Nat→Prop} (e:placeOf ((x,u)::es) k=some j) (h1:x=k→P 0) (h2:∀ i,x≠k→placeOf es k=some i→P (i+1)):P j:=by
 unfold placeOf at e
 rw [List.findIdx?_cons] at e
 by_cases q:x=k
 ·rw [if_pos (decide_eq_true q)] at e
  exact Option.some.inj e▸h1 q
 ·rw [if_neg (fun z=>q (of_decide_eq_true z))] at e
  exact mO e fun i e z=>z▸h2 i q e
theorem wC:∀ {es:List (AV×AV)} {k v:AV},j6 k es=none→jA k v es=es++[(k,v)]
 | [],_,_,_=>rfl
 | (x,w)::r,k,v,hh=>by
  unfold j6 at hh
  unfold jA
  split at hh
  ·exact j0 hh.symm
  ·rename_i q
   rw [if_neg q,wC hh];rfl
theorem ERels.modify {hash:AV→Int} {k v:AV} {vv:Value} (V:VRel c σ h v vv) {es:List (AV×AV)} {ds:List DictEntry} (r:ERels c σ h hash es ds):∀ {j:Nat},placeOf es k=some j→
  ERels c σ h hash (jA k v es) (ds.modify j fun e=>{ e with val:=vv }):=by
 induction r with
 | nil=>exact fun e=>j0 e
 | cons a b r ih=>exact fun e=>jcM (P:=fun j=>ERels c σ h hash (jA k v _) (List.modify _ j _)) e (fun q=>(ju8 q).symm▸.cons a V r) fun i q e=>(juG q).symm▸.cons a b (ih e)
theorem ERels.erase {hash:AV→Int} {k:AV} {es:List (AV×AV)} {ds:List DictEntry} (r:ERels c σ h hash es ds):∀ {j:Nat},placeOf es k=some j→
  ERels c σ h hash (yS k es) (ds.eraseIdx j):=by
 induction r with
 | nil=>exact fun e=>j0 e
 | cons a b r ih=>exact fun e=>jcM (P:=fun j=>ERels c σ h hash (yS k _) (List.eraseIdx _ j)) e (fun q=>(ju0 q).symm▸r) fun i q e=>(juH q).symm▸.cons a b (ih e)
theorem z0 {k v:AV}:∀ {es:List (AV×AV)},∀ e∈jA k v es,e.1=k∨∃ e'∈es,e'.1=e.1
 | [],e,he=>by simp [jA] at he;exact .inl (by rw [he])
 | (x,w)::r,e,he=>by
  unfold jA at he
  split at he
  ·rename_i q
   rcases List.mem_cons.mp he with rfl | he
   ·exact .inl q
   ·exact .inr ⟨e,.tail _ he,rfl⟩
  ·rcases List.mem_cons.mp he with rfl | he
   ·exact .inr ⟨_,.head _,rfl⟩
   ·rcases z0 e he with q | ⟨e',h1,h2⟩
    ·exact .inl q
    ·exact .inr ⟨e',.tail _ h1,h2⟩
theorem adel_sub {k:AV}:∀ {es:List (AV×AV)},(yS k es).Sublist es
 | []=>List.Sublist.refl _
 | (x,w)::r=>by
  unfold yS
  split
  ·exact List.sublist_cons_self _ _
  ·exact List.Sublist.cons_cons _ adel_sub
theorem jmV {d:Addr} {ds:List DictEntry} {ep:Nat} {f:Array DictEntry→Array DictEntry} (hg:h.get? d=some ⟨.type "dict",none,.dict ds.toArray ep,#[]⟩) :
  (h.update d (Obj.mapDict f)).get? d=some ⟨.type "dict",none,.dict (f ds.toArray) ep,#[]⟩:=Heap.get?_update_self _ hg rfl
theorem xN {d:Addr} {ds:List DictEntry} {ep:Nat} {f:Array DictEntry→Array DictEntry} (hg:h.get? d=some ⟨.type "dict",none,.dict ds.toArray ep,#[]⟩) :
  (h.update d (Obj.mapDictKeys f)).get? d=some ⟨.type "dict",none,.dict (f ds.toArray) (ep+1),#[]⟩:=Heap.get?_update_self _ hg rfl
theorem nM {s:Shared} {Q:Unit→Shared→Prop} {E:Value→Shared→Prop} {k:Nat} {d:Addr} {fl:Nat} {es:List (AV×AV)} {ep:Nat} {ds:List DictEntry} {i v:AV} {iv vv:Value} (R:Rep c σ S s.heap) (D:DictAt c σ s.heap k d fl es ep ds)
  (V:VRel c σ s.heap i iv) (W:VRel c σ s.heap v vv) (hu:A.units+12 < cLine) {ao:AO} (hp:qM fl es ep i v=some ao)
  (q:∀ h' t',Rep c σ (S.set k ao) h'→Step c σ s.heap σ h'→Q () { s with heap:=h',toks:=t' }):wpAny (model c.prog c.w) A (dictSet d iv vv) Q E s:=by
 unfold qM at hp
 split at hp
 ·rename_i hc
  refine xAA hc fun hf hfl hlen=>?_
  obtain rfl:=Option.some.inj hp
  unfold dictSet
  try with_reducible refine wpAny_holding ?_
  refine wpAny_bind (jdY hu hf V fun t'=>?_)
  unfold dictSetHashed
  try with_reducible refine wpAny_holding ?_
  refine wpAny_bind (gW (s:={ s with toks:=t' }) hu hf (D.flav hf hfl) V D.get D.rel D.nd ?_)
  have dl:ds.toArray.size≤sizeLine:=by
   have:=jT
   have:=D.rel.length
   simp only [List.size_toArray]
   unfold jC at hlen
   lia
  have fl':∀ e∈jA i v es,j7 e.1≠0∧j7 e.1=j7 i:=by
   intro e he
   rcases z0 e he with q | ⟨e',h1,h2⟩
   ·rw [q];exact ⟨hf,rfl⟩
   ·rw [← h2,D.flav hf hfl e' h1];exact ⟨hf,rfl⟩
  cases hg:j6 i es with
  | none=>
   rw [(z7 hg).1]
   refine wpAny_bind (wpAny_rule (wpAny_updateDictKeys (hz:=dl) (s:={ s with toks:=t' }) D.get rfl ?_))
   obtain ⟨R',T'⟩:=R.change (k:=k) (d:=d) (ao:=.dict (j7 i) (jA i v es) (ep+1)) D.sig (.inl rfl) (Heap.SameBut.update (h:=s.heap) d (Obj.mapDictKeys fun x=>x.push ⟨yV c i,iv,vv⟩)) (jiQ D.get fun _ _ h=>nomatch h) fun tk=>by
    refine .dict _ _ _ d (ds++[⟨yV c i,iv,vv⟩]) ((xN D.get).trans (by simp)) ?_ (yG D.nd).1 fl'
    rw [wC hg]
    have:=ERels.push (D.rel.mono (more:=[]) tk) (V.mono (more:=[]) tk) (W.mono (more:=[]) tk)
    rwa [List.append_nil] at this
   exact q _ _ (by simpa [hg] using R') T'
  | some u=>
   refine xEA (vE hg) fun j e1 e2=>?_
   rw [e1]
   refine wpAny_bind (wpAny_rule (wpAny_bind (wpAny_updateDict (s:={ s with toks:=t' }) D.get rfl (wpAny_point ?_))))
   obtain ⟨R',T'⟩:=R.change (k:=k) (d:=d) (ao:=.dict (j7 i) (jA i v es) ep) D.sig (.inl rfl) (Heap.SameBut.update (h:=s.heap) d (Obj.mapDict fun x=>x.modify j fun e=>{ e with val:=vv })) (jiQ D.get fun _ _ h=>nomatch h) fun tk=>by
    refine .dict _ _ _ d (ds.modify j fun e=>{ e with val:=vv }) ((jmV D.get).trans (by simp)) ?_ (yG D.nd).1 fl'
    have:=ERels.modify (W.mono (more:=[]) tk) (D.rel.mono (more:=[]) tk) e1
    rwa [List.append_nil] at this
   exact q _ _ (by simpa [hg] using R') T'
 ·exact j0 hp
theorem joF {s:Shared} {Q:Option DictEntry→Shared→Prop} {E:Value→Shared→Prop} {k:Nat} {d:Addr} {fl:Nat} {es:List (AV×AV)} {ep:Nat} {ds:List DictEntry} {i v:AV} {iv:Value} (R:Rep c σ S s.heap) (D:DictAt c σ s.heap k d fl es ep ds)
  (V:VRel c σ s.heap i iv) (hu:A.units+12 < cLine) (hf:j7 i≠0) (hfl:fl=j7 i) (hg:j6 i es=some v)
  (hl:es.length≤900000)
  (q:∀ e h' t',Rep c σ (S.set k (.dict fl (yS i es) (ep+1))) h'→Step c σ s.heap σ h'→Q (some e) { s with heap:=h',toks:=t' }):wpAny (model c.prog c.w) A (Builtin.Dict.takeOut d iv) Q E s:=by
 unfold Builtin.Dict.takeOut
 try with_reducible refine wpAny_holding ?_
 refine wpAny_bind (jdY hu hf V fun t'=>?_)
 refine wpAny_bind (gW (s:={ s with toks:=t' }) hu hf (D.flav hf (.inr hfl)) V D.get D.rel D.nd ?_)
 have dl:ds.toArray.size≤sizeLine:=by
  have:=jT
  have:=D.rel.length
  rw [List.size_toArray]
  lia
 refine xEA (vE hg) fun j e1 e2=>?_
 refine jB (D.rel.at e2) fun kv vv e3 v1 v2=>?_
 rw [e1]
 refine wpAny_bind (wpAny_dictEntries (s:={ s with toks:=t' }) D.get rfl ?_)
 have:ds.toArray[j]? = some ⟨yV c i,kv,vv⟩:=by rw [List.getElem?_toArray,e3]
 rw [this]
 refine wpAny_bind (wpAny_updateDictKeys (hz:=dl) (s:={ s with toks:=t' }) D.get rfl (wpAny_pure ?_))
 obtain ⟨R',T'⟩:=R.change (k:=k) (d:=d) (ao:=.dict fl (yS i es) (ep+1)) D.sig (.inl rfl) (Heap.SameBut.update (h:=s.heap) d (Obj.mapDictKeys fun x=>x.eraseIdxIfInBounds j)) (jiQ D.get fun _ _ h=>nomatch h) fun tk=>by
  refine .dict _ _ _ d (ds.eraseIdx j) ((xN D.get).trans (by simp)) ?_ ?_ fun e he=>D.fls e (adel_sub.subset he)
  ·have:=ERels.erase (D.rel.mono (more:=[]) tk) e1
   rwa [List.append_nil] at this
  ·exact (adel_sub.map _).nodup D.nd
 exact q _ _ _ R' T'
end
section
variable {c:Cx} {A:Around} {n:Nat} {S S1 S2 S3:St} {σ:Sig} {h:Heap}
theorem Room.in1 (r:Room A n):A.in1.units+12 < cLine:=by
 have:=r.units
 show A.units+1+12 < cLine
 lia
noncomputable def kS (c:Cx):Prop:=∃ o,c.H0.get? sysModules=some o
theorem in_dict (Y:kS c) (r:Room A n) {k fl ep:Nat} {es:List (AV×AV)} {i:AV} {x iv:Value} (hS:S[k]? = some (.dict fl es ep)) (hf:j7 i≠0) (hfl:fl=0∨fl=j7 i) :
  Run c A S (contains x iv) S (fun _ _ b=>b=(j6 i es).isSome) (fun σ h=>VRel c σ h (.ref k) x∧VRel c σ h i iv):=by
 refine Run.toks fun σ s Q E R V q=>?_
 refine kE (R.dict V.1 hS) fun d ds q2q D=>?_;obtain rfl:=q2q
 unfold contains
 try with_reducible refine wpAny_holding ?_
 refine wpAny_bind (wpAny_specialOf D.typeIs slot_dict_contains.lookup ?_)
 rw [if_neg (by rw [beq_builtin_none];exact Bool.false_ne_true)]
 refine wpAny_bind (wpAny_callSpecialUnlessNone?_slot (name:=Str.ofString "__contains__") D.typeIs slot_dict_contains
  (wpAny_call_entry slot_dict_contains D.typeIs entry_dict_contains ?_ (args_dict_contains _ _)))
 show wpAny _ _ (dictGet d iv >>= _) _ _ s
 refine wpAny_bind (tR D V.2 r.in1 hf hfl fun rr t' hr=>?_)
 generalize hg:j6 i es=g at hr
 induction hr using ORel?.casesOn with
 | some v=>
  exact wpAny_pure ⟨_,rfl,wpAny_truthy_bool (q _ t' (by rw [hg];rfl))⟩
 | none=>
  exact wpAny_bind (wpAny_pendingKey_other (D.sys Y) (wpAny_pure ⟨_,rfl,wpAny_truthy_bool (q _ t' (by rw [hg];rfl))⟩))
theorem jj4 (r:Room A n) {k fl ep:Nat} {es:List (AV×AV)} {i v:AV} {x iv:Value} (hS:S[k]? = some (.dict fl es ep)) (hf:j7 i≠0) (hfl:fl=j7 i) (hg:j6 i es=some v) :
  Run c A S (getItem x iv) S (fun σ h w=>VRel c σ h v w) (fun σ h=>VRel c σ h (.ref k) x∧VRel c σ h i iv):=by
 refine Run.toks fun σ s Q E R V q=>?_
 refine kE (R.dict V.1 hS) fun d ds q2q D=>?_;obtain rfl:=q2q
 unfold getItem
 try with_reducible refine wpAny_holding ?_
 refine wpAny_bind (wpAny_sequenceKey D.typeIs (by decide) ?_)
 refine wpAny_bind (wpAny_callSpecial?_slot (name:=Str.ofString "__getitem__") D.typeIs slot_dict_getitem
  (wpAny_call_entry slot_dict_getitem D.typeIs entry_dict_getitem ?_ (args_dict_getitem _ _)))
 show wpAny _ _ (dictGet d iv >>= _) _ _ s
 refine wpAny_bind (tR D V.2 r.in1 hf (.inr hfl) fun rr t' hr=>?_)
 replace hr:=hg▸hr
 cases hr with
 | some v=>exact wpAny_pure ⟨_,rfl,wpAny_pure (q _ t' v)⟩
theorem jiC (r:Room A n) {k fl ep:Nat} {es:List (AV×AV)} {i v:AV} {x iv vv:Value} {ao:AO} (hS:S[k]? = some (.dict fl es ep)) (hp:qM fl es ep i v=some ao) :
  Run c A S (setItem x iv vv) (S.set k ao) (fun _ _ _=>True) (fun σ h=>VRel c σ h (.ref k) x∧VRel c σ h i iv∧VRel c σ h v vv):=by
 intro σ s Q E R V q
 refine kE (R.dict V.1 hS) fun d ds q2q D=>?_;obtain rfl:=q2q
 unfold setItem
 try with_reducible refine wpAny_holding ?_
 refine wpAny_bind (wpAny_sequenceKey D.typeIs (by decide) ?_)
 refine wpAny_bind (wpAny_callSpecial?_slot (name:=Str.ofString "__setitem__") D.typeIs slot_dict_setitem
  (wpAny_call_entry slot_dict_setitem D.typeIs entry_dict_setitem ?_ (args_dict_setitem _ _ _)))
 refine wpAny_bind (wpAny_notOrdered_dict D.typeIs ?_)
 show wpAny _ _ (dictSet d iv vv >>= _) _ _ s
 exact wpAny_bind (nM R D V.2.1 V.2.2 r.in1 hp fun h' t' R' T'=>wpAny_pure ⟨.none,rfl,wpAny_pure (q σ h' t' () R' T' trivial)⟩)
theorem jhI (r:Room A n) {k fl ep:Nat} {es:List (AV×AV)} {i:AV} {x iv:Value} (hS:S[k]? = some (.dict fl es ep)) (hf:j7 i≠0) (hfl:fl=j7 i) (hg:(j6 i es).isSome=true) (hl:es.length≤900000) :
  Run c A S (delItem x iv) (S.set k (.dict fl (yS i es) (ep+1))) (fun _ _ _=>True) (fun σ h=>VRel c σ h (.ref k) x∧VRel c σ h i iv):=by
 intro σ s Q E R V q
 refine kE (R.dict V.1 hS) fun d ds q2q D=>?_;obtain rfl:=q2q
 obtain ⟨v,hv⟩:=Option.isSome_iff_exists.mp hg
 refine wpAny_delItem_slot D.typeIs (by decide) F.slot_dict_delitem (wpAny_call_entry F.slot_dict_delitem D.typeIs F.entry_dict_delitem ?_ (F.args_dict_delitem_2 _ _))
 unfold Builtin.«dict.__delitem__»
 refine wpAny_bind ?_
 refine wpAny_bind (wpAny_notOrdered_dict D.typeIs ?_)
 refine wpAny_pure ?_
 show wpAny _ _ (Builtin.Dict.takeOut d iv >>= _) _ _ s
 refine wpAny_bind (joF R D V.2 r.in1 hf hfl hv hl fun e h' t' R' T'=>?_)
 exact wpAny_bind (wpAny_letGo (wpAny_pure ⟨.none,rfl,q σ h' t' () R' T' trivial⟩))
theorem get_dict (Y:kS c) (r:Room A n) {k fl ep:Nat} {es:List (AV×AV)} {i:AV} {d:Addr} {iv:Value} (hS:S[k]? = some (.dict fl es ep)) (hf:j7 i≠0) (hfl:fl=0∨fl=j7 i) :
  Run c A S (call (.builtin "dict.get") [.ref d,iv]) S (fun σ h w=>VRel c σ h ((j6 i es).getD .none) w) (fun σ h=>VRel c σ h (.ref k) (.ref d)∧VRel c σ h i iv):=by
 refine Run.toks fun σ s Q E R V q=>?_
 refine kE (R.dict V.1 hS) fun d ds e D=>?_
 obtain rfl:=PySem.Value.ref.inj e
 refine wpAny_call_entry F.slot_dict_get D.typeIs F.entry_dict_get ?_ (F.args_dict_get_2 _ _)
 show wpAny _ _ (dictGet d iv >>= _) _ _ s
 refine wpAny_bind (tR D V.2 r.in1 hf hfl fun rr t' hr=>?_)
 generalize hg:j6 i es=g at hr q
 induction hr using ORel?.casesOn with
 | some v=>exact wpAny_pure ⟨_,rfl,q _ t' v⟩
 | none=>
  exact wpAny_bind (wpAny_missed_other (D.sys Y) (wpAny_pure ⟨.none,rfl,q _ t' .none⟩))
end
end Mine
end
section
open PySem PySem.W PyProof.Rows PySem.Calls
namespace Mine
section
variable {c:Cx} {A:Around} {n:Nat} {S S1 S2 S3:St}
theorem jrL {x:Int} (h:x.natAbs < 2^64):Builtin.Int.intBits x≤64:=intBits_le h
theorem jq3 {x y:Int} (h:y.natAbs < 2^64):Builtin.divisionGoesByPylong x y=false:=by
 refine _root_.PyProof.noPylong_of_log2 ?_
 by_cases h0:y.natAbs=0
 ·rw [h0];decide +kernel
 ·have:=(Nat.log2_lt h0).mpr h
  lia
theorem jn5 (B:uD c) (r:Room A n) {op:Operator} {x y i:Int} {v w:Value} (h:jdU op x y=some i):Run c A S (binaryOp op v w) S (fun σ h u=>VRel c σ h (.int i) u) (fun σ h=>VRel c σ h (.int x) v∧VRel c σ h (.int y) w):=by
 refine Run.toks fun σ s Q E R V q=>?_
 obtain ⟨V,W⟩:=V
 obtain ⟨t,rfl⟩:=V.int'
 ·
  obtain ⟨u,rfl⟩:=W.int'
  ·
   induction op using PySem.Operator.casesOn<;>simp only [jdU,reduceCtorEq,Option.some.injEq] at h
   ·subst h;exact wpAny_add_int (q _ _ (.int _ _))
   ·subst h;exact sub_int' (q _ _ (.int _ _))
   ·split at h
    ·rename_i hm
     obtain rfl:=Option.some.inj h
     refine PyProof.Rows.mul_int (q _ _ (.int _ _)) ?_
     rcases hm with hm | hm
     ·exact .of_left (jrL hm)
     ·exact .of_right (jrL hm)
    ·exact j0 h
   ·split at h
    ·exact j0 h
    ·rename_i hy
     obtain rfl:=Option.some.inj h
     exact mod_int' hy (q _ _ (.int _ _))
   ·split at h
    ·rename_i hm
     obtain rfl:=Option.some.inj h
     exact pow_int_small hm.1 (by lia) (by rw [hm.2.2];decide) (q _ _ (.int _ _))
    ·exact j0 h
   ·split at h
    ·rename_i hm
     obtain rfl:=Option.some.inj h
     exact lshift_int_small hm.1 (by omega) hm.2.2 (q _ _ (.int _ _))
    ·exact j0 h
   ·split at h
    ·rename_i hm
     obtain rfl:=Option.some.inj h
     exact rshift_int hm.1 (q _ _ (.int _ _))
    ·exact j0 h
   ·subst h;exact or_int (q _ _ (.int _ _))
   ·subst h;exact and_int (q _ _ (.int _ _))
   ·split at h
    ·exact j0 h
    ·rename_i hy
     obtain rfl:=Option.some.inj h
     exact floordiv_int (fun e=>hy (.inl e)) (q _ _ (.int _ _)) (.inl (jq3 (Nat.lt_of_not_le fun e=>hy (.inr e))))
theorem jmW {xs ys:List AV} {v w:Value} (hl:xs.length+ys.length≤jC):Run c A S (binaryOp .Add v w) S (fun σ h u=>VRel c σ h (.tup (xs++ys)) u) (fun σ h=>VRel c σ h (.tup xs) v∧VRel c σ h (.tup ys) w):=by
 intro σ s Q E R V q
 obtain ⟨V,W⟩:=V
 refine jB V.tup' fun a vs q2q t r=>?_;obtain rfl:=q2q
 ·
  refine jB W.tup' fun b ws q2q t2 r2=>?_;obtain rfl:=q2q
  ·
   have:=jT
   have e1:=r.length
   have e2:=r2.length
   unfold jC at hl
   have key:∀ h',(h'=s.heap∨True)→True:=fun _ _=>trivial
   refine jeU (id t) fun q0q ho hc n1 hd=>?_;obtain ⟨cls,dd,data,sl⟩:=q0q
   refine jeU (id t2) fun q0q ho2 hc2 n2 hd2=>?_;obtain ⟨cls2,dd2,data2,sl2⟩:=q0q
   simp only at hc hd hc2 hd2
   subst hc hd hc2 hd2
   have e:vs.toArray++ws.toArray=(vs++ws).toArray:=by simp
   by_cases hv:vs=[]
   ·subst hv
    cases r
    exact concat_meets ⟨_,ho,rfl⟩ ⟨_,ho2,rfl⟩ noFill_tuple_add seq_tuple_add PySem.F.slot_tuple_add PySem.F.entry_tuple_add (PySem.F.args_tuple_add_2 _ _)
     (tuple_addW0 a b #[] ws.toArray n1 n2 dd dd2 sl sl2 (by simp)) ⟨ho,ho2,q σ s.heap s.toks _ R .refl (.tup _ b ws t2 r2)⟩
   ·by_cases hw:ws=[]
    ·subst hw
     cases r2
     refine concat_meets ⟨_,ho,rfl⟩ ⟨_,ho2,rfl⟩ noFill_tuple_add seq_tuple_add PySem.F.slot_tuple_add PySem.F.entry_tuple_add (PySem.F.args_tuple_add_2 _ _)
      (tuple_addW1 a b vs.toArray #[] n1 n2 dd dd2 sl sl2 (by simpa using hv) (by simp)) ⟨ho,ho2,q σ s.heap s.toks _ R .refl ?_⟩
     rw [List.append_nil]
     exact .tup _ a vs t r
    ·refine concat_meets ⟨_,ho,rfl⟩ ⟨_,ho2,rfl⟩ noFill_tuple_add seq_tuple_add PySem.F.slot_tuple_add PySem.F.entry_tuple_add (PySem.F.args_tuple_add_2 _ _)
      (tuple_addW2 a b vs.toArray ws.toArray n1 n2 dd dd2 sl sl2 (by simpa using hv) (by simpa using hw) (by rw [List.size_toArray,List.size_toArray];lia)) ⟨ho,ho2,?_⟩
     rw [e]
     refine q σ _ s.toks _ (R.push _) (.push _) ?_
     refine .tup _ _ (vs++ws) ⟨_,Heap.get?_push_size _ rfl,rfl,0,rfl⟩ ?_
     have:=(r.append r2).mono (more:=[]) (zF { cls:=.type "tuple",data:=.seq (vs++ws).toArray })
     rwa [List.append_nil] at this
theorem Rep.list {σ:Sig} {h:Heap} {k:Nat} {xs:List AV} {x:Value} (R:Rep c σ S h) (V:VRel c σ h (.ref k) x) (hS:S[k]? = some (.list xs)) :
  ∃ a vs n sl,x = .ref a∧σ[k]? = some (a,none)∧h.get? a=some ⟨.type "list",none,.seq vs.toArray n,sl⟩∧VRels c σ h xs vs:=by
 refine kE V.ref' fun a p q2q hσ=>?_;obtain rfl:=q2q
 ·
  refine xEA (R.sig hS) fun q hq OR=>?_
  rw [hσ] at hq;obtain rfl:=Option.some.inj hq
  refine jB OR.list' fun _ vs e8q hp hv=>?_;refine xA (Prod.mk.inj e8q) fun q0q q1q=>?_;obtain rfl:=q0q;obtain rfl:=q1q
  ·
   refine jiS hp fun q0q n e h1 h2 h3=>?_;obtain ⟨cls,dd,data,sl⟩:=q0q
   simp only at h1 h2 h3
   subst h1 h2 h3
   exact ⟨a,vs,n,sl,rfl,hσ,e,hv⟩
theorem jfU {σ:Sig} {s:Shared} {xs:List AV} {vs:List Value} {Q:Value→Shared→Prop} (R:Rep c σ S s.heap) (r:VRels c σ s.heap xs vs)
  (q:∀ σ' h' t' a,Rep c σ' (S++[.list xs]) h'→Step c σ s.heap σ' h'→VRel c σ' h' (.ref S.length) a→Q a { s with heap:=h',toks:=t' }) :
  Q (.ref s.heap.objs.size) { s with heap:=s.heap.push { cls:=.type "list",data:=.seq vs.toArray },toks:=s.toks }:=by
 refine q (σ++[(s.heap.objs.size,none)]) _ s.toks _ (R.alloc ?_) (.alloc _) ?_
 ·exact .list xs _ vs ⟨_,0,Heap.get?_push_size _ rfl,rfl,rfl,rfl⟩ (r.mono (zF _))
 ·refine .ref _ _ none ?_
  rw [R.len,List.getElem?_append_right (Nat.le_refl _),Nat.sub_self];rfl
theorem jk6 {j k:Nat} {xs ys:List AV} {v w:Value} (hj:S[j]? = some (.list xs)) (hk:S[k]? = some (.list ys)) (hl:xs.length+ys.length≤jC) :
  Run c A S (binaryOp .Add v w) (S++[.list (xs++ys)]) (fun σ h u=>VRel c σ h (.ref S.length) u) (fun σ h=>VRel c σ h (.ref j) v∧VRel c σ h (.ref k) w):=by
 intro σ s Q E R V q
 obtain ⟨V,W⟩:=V
 refine jL (R.list V hj) fun a vs n1 sl q4q _ ho r=>?_;obtain rfl:=q4q
 refine jL (R.list W hk) fun b ws n2 sl2 q4q _ ho2 r2=>?_;obtain rfl:=q4q
 have:=jT
 have e1:=r.length
 have e2:=r2.length
 unfold jC at hl
 have e:vs.toArray++ws.toArray=(vs++ws).toArray:=by simp
 refine concat_meets ⟨_,ho,rfl⟩ ⟨_,ho2,rfl⟩ noFill_list_add seq_list_add PySem.F.slot_list_add PySem.F.entry_list_add (PySem.F.args_list_add_2 _ _)
  (list_addW a b vs.toArray ws.toArray n1 n2 none none sl sl2 (by rw [List.size_toArray,List.size_toArray];lia)) ⟨ho,ho2,?_⟩
 rw [e]
 exact jfU R (r.append r2) q
theorem jaY {v:Value}:∀ (m:Nat) (acc:Array Value),List.foldl (fun (x1 x2:Array Value)=>x1++x2) acc (List.replicate m #[v])=acc++(List.replicate m v).toArray
 | 0,acc=>by rfl
 | m+1,acc=>by
  rw [List.replicate_succ,List.foldl_cons,jaY m,List.replicate_succ]
  apply Array.toList_inj.mp
  simp
theorem VRels.replicate {σ:Sig} {h:Heap} {x:AV} {v:Value} (V:VRel c σ h x v):∀ m,VRels c σ h (List.replicate m x) (List.replicate m v)
 | 0=>.nil
 | m+1=>by rw [List.replicate_succ,List.replicate_succ];exact .cons V (VRels.replicate V m)
theorem jkA {j:Nat} {x:AV} {i:Int} {v w:Value} (hj:S[j]? = some (.list [x])) (h0:0≤i) (h1:i≤1000) :
  Run c A S (binaryOp .Mult v w) (S++[.list (List.replicate i.toNat x)]) (fun σ h u=>VRel c σ h (.ref S.length) u) (fun σ h=>VRel c σ h (.ref j) v∧VRel c σ h (.int i) w):=by
 intro σ s Q E R V q
 obtain ⟨V,W⟩:=V
 refine jL (R.list V hj) fun a vs n1 sl q4q _ ho r=>?_;obtain rfl:=q4q
 obtain ⟨u,rfl⟩:=W.int'
 ·
  cases r with
  | @cons _ y _ ws V1 r2=>
   obtain rfl:=r2.nil'
   refine wpAny_binaryOp_repeat_ref (T:="list") (U:="int") (by decide) ⟨_,ho,rfl⟩ (fun s'=>typeIs_int s' i u) noFill_list_mul F.fills_int_mul F.slot_int_rmul repeat_list F.slot_int_index.lookup
    (call_meets F.slot_int_rmul (typeIs_int s i u) F.entry_int_rmul (F.args_int_rmul_2 _ _) (lm_int_rmul_list_any i u a [y].toArray n1 none sl)
     ⟨ho,rfl,⟨_,ho,rfl⟩,call_meets F.slot_list_mul ⟨_,ho,rfl⟩ F.entry_list_mul (F.args_list_mul_2 _ _)
      (lm_list_mul_any a [y].toArray n1 none sl i u (by simp [Builtin.List.listFitsIndex];lia) (by simp;lia) (by simp [Builtin.List.listTooLong,sizeLine];lia))
      ⟨ho,?_⟩⟩)
   have e:List.foldl (fun (x1 x2:Array Value)=>x1++x2) #[] (List.replicate (if ([y].toArray).isEmpty=true then 0 else i.toNat) [y].toArray)=(List.replicate i.toNat y).toArray:=by
    rw [if_neg (by simp)]
    have:=jaY (v:=y) i.toNat #[]
    simpa using this
   rw [e]
   exact jfU R (VRels.replicate V1 _) q
theorem jvZ (B:uD c) (r:Room A n) {op:Operator} {a b v:AV} {x y:Value} (h:zK op a b S=some (v,S1)):Run c A S (binaryOp op x y) S1 (fun σ h w=>VRel c σ h v w) (fun σ h=>VRel c σ h a x∧VRel c σ h b y):=by
 exact juP (P:=fun op a b p=>Run c A S (binaryOp op x y) p.2 (fun σ h w=>VRel c σ h p.1 w) (fun σ h=>VRel c σ h a x∧VRel c σ h b y)) h (fun x y i hi=>jn5 B r hi) (fun xs ys hl=>jmW hl) (fun j k xs ys h1 h2 hl=>jk6 h1 h2 hl) fun j n x h1 h2 h3=>jkA h1 h2 h3
end
end Mine
end
section
open PySem PySem.Builtin
namespace Mine
theorem uH:Manifest.owners.lookup (String.ofList ['y','a','r','r','a','e','t','y','b'].reverse)=some Manifest.sig_bytearray:=by kernel_rfl
theorem nH:Slot "bytearray" "__len__" "bytearray.__len__":=
 .of (owner:="bytearray") (n:="__len__") (by rw [typeLookup_type,builtinLookup_eq_fast];kernel_rfl) (by decide +kernel) (by decide +kernel) (by decide +kernel)
  (by first | exact .inl (by decide +kernel) | exact .inr (by decide +kernel)) (by rw [isSubtype_type];kernel_rfl)
theorem tA:entryFor table "bytearray.__len__" = some Builtin.«bytearray.__len__»:=entryFor_of_tree (by kernel_rfl)
theorem gI (a:Value):argsOk "bytearray.__len__" ⟨[a],[]⟩:=by
 unfold argsOk;rw [signature?_of (id:="bytearray.__len__") (n:=['_','_','n','e','l','_','_']) (o:=['y','a','r','r','a','e','t','y','b']) (by kernel_rfl) uH];kernel_rfl
theorem slot_bytearray_getitem:Slot "bytearray" "__getitem__" "bytearray.__getitem__":=
 .of (owner:="bytearray") (n:="__getitem__") (by rw [typeLookup_type,builtinLookup_eq_fast];kernel_rfl) (by decide +kernel) (by decide +kernel) (by decide +kernel)
  (by first | exact .inl (by decide +kernel) | exact .inr (by decide +kernel)) (by rw [isSubtype_type];kernel_rfl)
theorem zI:entryFor table "bytearray.__getitem__" = some Builtin.«bytearray.__getitem__»:=entryFor_of_tree (by kernel_rfl)
theorem yX (a b:Value):argsOk "bytearray.__getitem__" ⟨[a,b],[]⟩:=by
 unfold argsOk;rw [signature?_of (id:="bytearray.__getitem__") (n:=['_','_','m','e','t','i','t','e','g','_','_']) (o:=['y','a','r','r','a','e','t','y','b']) (by kernel_rfl) uH];kernel_rfl
theorem jl2:typeLookup (.type "bytearray") "__bytes__" = pure none:=by rw [typeLookup_type,builtinLookup_eq_fast];kernel_rfl
theorem jlZ:typeLookup (.type "bytearray") "__index__" = pure none:=by rw [typeLookup_type,builtinLookup_eq_fast];kernel_rfl
theorem jaC:typeLookup (.type "bytearray") "__buffer__" = pure (some (.builtin "bytearray.__buffer__")):=by rw [typeLookup_type,builtinLookup_eq_fast];kernel_rfl
theorem jnF:typeLookup (.type "bytearray") "__release_buffer__" = pure (some (.builtin "bytearray.__release_buffer__")):=by rw [typeLookup_type,builtinLookup_eq_fast];kernel_rfl
theorem jeM:typeLookup (.type "bytes") "__index__" = pure none:=by rw [typeLookup_type,builtinLookup_eq_fast];kernel_rfl
end Mine
end
section
open PySem PySem.W PyProof.Rows PySem.Calls
namespace Mine
section
variable {c:Cx} {A:Around} {sc:Scope} {env:Env} {ρ:Loc} {n:Nat} {S S1 S2 S3:St} {σ:Sig} {h:Heap}
theorem Rep.bar {k:Nat} {b:List UInt8} {x:Value} (R:Rep c σ S h) (V:VRel c σ h (.ref k) x) (hS:S[k]? = some (.ba b)) :
  ∃ a m,x = .ref a∧σ[k]? = some (a,none)∧h.get? a=some ⟨.type "bytearray",none,.bytearray b.toArray m,#[]⟩:=by
 refine kE V.ref' fun a p q2q hσ=>?_;obtain rfl:=q2q
 ·
  refine xEA (R.sig hS) fun q hq OR=>?_
  rw [hσ] at hq;obtain rfl:=Option.some.inj hq
  refine kE OR.ba' fun _ m e9q e=>?_;refine xA (Prod.mk.inj e9q) fun q0q q1q=>?_;obtain rfl:=q0q;obtain rfl:=q1q
  ·exact ⟨a,m,rfl,hσ,e⟩
noncomputable def getSlot:String→Option String
 | "list"=>some "list.__getitem__"
 | "tuple"=>some "tuple.__getitem__"
 | "dict"=>some "dict.__getitem__"
 | "bytes"=>some "bytes.__getitem__"
 | "bytearray"=>some "bytearray.__getitem__"
 | _=>none
theorem jmJ {T id:String} (h:getSlot T=some id):typeLookup (.type T) "__getitem__" = pure (some (.builtin id)):=by
 unfold getSlot at h
 split at h<;>first | (cases h;done) | skip
 ·obtain rfl:=Option.some.inj h;exact slot_list_getitem.lookup
 ·obtain rfl:=Option.some.inj h;exact slot_tuple_getitem.lookup
 ·obtain rfl:=Option.some.inj h;exact slot_dict_getitem.lookup
 ·obtain rfl:=Option.some.inj h;exact FB.slot_bytes_getitem.lookup
 ·obtain rfl:=Option.some.inj h;exact slot_bytearray_getitem.lookup
noncomputable def xO (c:Cx) (S:St) (o:AV) (x:Value):Prop:=∀ (σ:Sig) (s:Shared),Rep c σ S s.heap→VRel c σ s.heap o x→∃ T id,s.TypeIs x T∧getSlot T=some id
theorem jl6 {o:AV} {x iv:Value} {value slice:Expr} {ops:List Value} {V:Sig→Heap→Value→Prop} {I:Sig→Heap→Prop} (hT:xO c S o x) (hI:∀ σ h,I σ h→VRel c σ h o x)
  (hs:subscripted slice false x iv=operate ops (getItem x iv)) (hg:Run c A S (getItem x iv) S1 V I) :
  Run c A S (do let r ← subscripted slice (← getitemInPython x) x iv;letTemporaryGo value x r;pure r) S1 V I:=by
 intro σ s Q E R i k
 refine kE (hT σ s R (hI _ _ i)) fun T id ht hid=>?_
 exact tail_any ht (jmJ hid) (hg σ s Q E R i k) hs
theorem item_tup {xs:List AV} {i:Int} {v:AV} {x iv:Value} (h:itemAt xs i=some v):Run c A S (getItem x iv) S (fun σ h w=>VRel c σ h v w) (fun σ h=>VRel c σ h (.tup xs) x∧VRel c σ h (.int i) iv):=by
 refine Run.toks fun σ s Q E R V q=>?_
 obtain ⟨V,W⟩:=V
 unfold itemAt at h
 split at h
 ·rename_i hi
  refine jB V.tup' fun a vs q2q t r=>?_;obtain rfl:=q2q
  ·
   obtain ⟨u,rfl⟩:=W.int'
   ·
    refine xEA (r.get h) fun w hw Vw=>?_
    have hl:i.toNat < vs.length:=(List.getElem?_eq_some_iff.mp hw).1
    refine getItem_tuple t (by lia) (by lia) (k:=i) (j:=i.toNat) ?_ (x:=w) (by simpa using hw) (q w s.toks Vw)
    have hn:¬ i < 0:=by lia
    have h2:i < vs.length:=by lia
    simp [seqIndex?,hn,hi.1,h2]
 ·exact j0 h
theorem item_list {k:Nat} {xs:List AV} {i:Int} {v:AV} {x iv:Value} (hS:S[k]? = some (.list xs)) (h:itemAt xs i=some v):Run c A S (getItem x iv) S (fun σ h w=>VRel c σ h v w) (fun σ h=>VRel c σ h (.ref k) x∧VRel c σ h (.int i) iv):=by
 refine Run.toks fun σ s Q E R V q=>?_
 obtain ⟨V,W⟩:=V
 unfold itemAt at h
 split at h
 ·rename_i hi
  refine jL (R.list V hS) fun a vs m sl q4q _ ho r=>?_;obtain rfl:=q4q
  obtain ⟨u,rfl⟩:=W.int'
  ·
   refine xEA (r.get h) fun w hw Vw=>?_
   exact wpAny_getItem_list (x:=w) ⟨_,ho,rfl,m,rfl⟩ hi.1 (by lia) (by simpa using hw) (q w s.toks Vw)
 ·exact j0 h
theorem jo4 {b:List UInt8} {i:Int} {v:AV} {x iv:Value} (h:byteAt b i=some v):Run c A S (getItem x iv) S (fun σ h w=>VRel c σ h v w) (fun σ h=>VRel c σ h (.bytes b) x∧VRel c σ h (.int i) iv):=by
 refine Run.toks fun σ s Q E R V q=>?_
 obtain ⟨V,W⟩:=V
 unfold byteAt at h
 split at h
 ·rename_i hi
  rw [Option.map_eq_some_iff] at h
  obtain ⟨y,hy,rfl⟩:=h
  obtain ⟨t,rfl⟩:=V.bytes'
  ·
   obtain ⟨u,rfl⟩:=W.int'
   ·
    have hlt:i.toNat < b.length:=(List.getElem?_eq_some_iff.mp hy).1
    refine getItem_bytes (by have:=hi.2.2;unfold jC at this;lia) hi.1 (by lia) (q _ _ ?_)
    rw [List.getD_eq_getElem?_getD,hy]
    exact .int _ _
 ·exact j0 h
theorem yT {a:Addr} {b:Array UInt8} {m:Nat} {s:Shared} {Q:Array UInt8→Shared→Prop} {E:Value→Shared→Prop} {M:Model} (ho:s.heap.get? a=some ⟨.type "bytearray",none,.bytearray b m,#[]⟩) (h:Q b s) :
  wpAny M A (Builtin.Bytes.payload (.ref a)) Q E s:=by
 delta Builtin.Bytes.payload Builtin.Bytes.payload?
 refine wpAny_bind (wpAny_bind (wpAny_loadPart ho ?_))
 exact wpAny_pure (wpAny_pure h)
theorem jxK {k:Nat} {b:List UInt8} {i:Int} {v:AV} {x iv:Value} (hS:S[k]? = some (.ba b)) (h:byteAt b i=some v):Run c A S (getItem x iv) S (fun σ h w=>VRel c σ h v w) (fun σ h=>VRel c σ h (.ref k) x∧VRel c σ h (.int i) iv):=by
 refine Run.toks fun σ s Q E R V q=>?_
 obtain ⟨V,W⟩:=V
 unfold byteAt at h
 split at h
 ·rename_i hi
  rw [Option.map_eq_some_iff] at h
  obtain ⟨y,hy,rfl⟩:=h
  refine jB (R.bar V hS) fun a m q2q _ ho=>?_;obtain rfl:=q2q
  obtain ⟨u,rfl⟩:=W.int'
  ·
   have hlt:i.toNat < b.length:=(List.getElem?_eq_some_iff.mp hy).1
   have hT:s.TypeIs (.ref a) "bytearray":=⟨_,ho,rfl⟩
   unfold getItem
   try with_reducible refine wpAny_holding ?_
   refine wpAny_bind (wpAny_sequenceKey hT (by decide) ?_)
   refine wpAny_bind (wpAny_callSpecial?_slot (name:=Str.ofString "__getitem__") hT slot_bytearray_getitem
    (wpAny_call_entry slot_bytearray_getitem hT zI ?_ (yX _ _)))
   show wpAny _ _ (Builtin.Bytes.subscript? (.int i u) >>= fun r=>_) _ _ s
   refine wpAny_bind ?_
   unfold Builtin.Bytes.subscript?
   refine wpAny_bind (wpAny_specialOf (typeIs_int s i u) F.slot_int_index.lookup ?_)
   show wpAny _ _ (if (!Builtin.Bytes.fitsIndex i)=true then _ else pure (some i)) _ _ s
   have hf:Builtin.Bytes.fitsIndex i=true:=by simp only [Builtin.Bytes.fitsIndex,Bool.and_eq_true,decide_eq_true_eq];lia
   rw [hf]
   refine wpAny_pure ?_
   refine wpAny_bind (yT ho ?_)
   have hx:(seqIndex? i b.toArray.size).bind (b.toArray[·]?)=some y:=by
    have hn:¬ i < 0:=by lia
    have h2:i < b.length:=by lia
    dsimp only [seqIndex?,hn,hi.1,h2,List.size_toArray]
    simp [hn,hi.1,h2]
    exact (List.getElem?_eq_some_iff.mp hy).2
   rw [hx]
   exact wpAny_bind (wpAny_mkInt (wpAny_pure ⟨_,rfl,wpAny_pure (q _ _ (.int _ _))⟩))
 ·exact j0 h
theorem jxO (r:Room A n) {o i v:AV} {x iv:Value} (h:k9 S o i=some v):Run c A S (getItem x iv) S (fun σ h w=>VRel c σ h v w) (fun σ h=>VRel c σ h o x∧VRel c σ h i iv):=by
 exact jl0 (P:=fun o i=>Run c A S (getItem x iv) S (fun σ h w=>VRel c σ h v w) (fun σ h=>VRel c σ h o x∧VRel c σ h i iv)) h (fun xs j h=>item_tup h) (fun b j h=>jo4 h) (fun k xs j hS h=>item_list hS h) (fun k fl es ep hS h1 h2 h=>jj4 r hS h1 h2 h) fun k b j hS h=>jxK hS h
theorem jcG {xs:List AV} {x:Value}:xO c S (.tup xs) x:=fun σ s R V=>by
 refine jB V.tup' fun a vs q2q t r=>?_;obtain rfl:=q2q
 ·exact ⟨"tuple",_,t.typeIs,rfl⟩
theorem mK {b:List UInt8} {x:Value}:xO c S (.bytes b) x:=fun σ s R V=>by
 refine xE V.bytes' fun t q1q=>?_;obtain rfl:=q1q
 ·exact ⟨"bytes",_,rfl,rfl⟩
theorem wK {k:Nat} {o:AO} {x:Value} (hS:S[k]? = some o) (ho:match o with | .inst _ _=>False | _=>True):xO c S (.ref k) x:=fun σ s R V=>by
 induction o using AO.casesOn with
 | list xs=>
  refine jL (R.list V hS) fun a vs m sl q4q _ ho r=>?_;obtain rfl:=q4q
  exact ⟨"list",_,⟨_,ho,rfl⟩,rfl⟩
 | dict fl es ep=>
  refine kE (R.dict V hS) fun d ds q2q D=>?_;obtain rfl:=q2q
  exact ⟨"dict",_,D.typeIs,rfl⟩
 | inst _ _=>exact ho.elim
 | ba b=>
  refine jB (R.bar V hS) fun a m q2q _ ho=>?_;obtain rfl:=q2q
  exact ⟨"bytearray",_,⟨_,ho,rfl⟩,rfl⟩
theorem jnP {o i v:AV} {x:Value} (h:k9 S o i=some v):xO c S o x:=
 jl0 (P:=fun o _=>xO c S o x) h (fun xs j h=>jcG) (fun b j h=>mK) (fun k xs j hS h=>wK hS trivial) (fun k fl es ep hS h1 h2 h=>wK hS trivial) fun k b j hS h=>wK hS trivial
noncomputable def jdN:Expr→Bool
 | .Slice ..=>false
 | _=>true
theorem mV {slice:Expr} {o i:Value} (h:jdN slice=true):subscripted slice false o i=operate [o,i] (getItem o i):=by
 induction slice using PySem.Expr.casesOn<;>first | rfl | exact Bool.noConfusion h
theorem ev_sub (r:Room A n) {o i:Expr} {p:Pos} {a b v:AV} (h1:Ev c A sc env o ρ S a S1) (h2:Ev c A sc env i ρ S1 b S2) (hn:jdN i=true) (h:k9 S2 a b=some v):Ev c A sc env (.Subscript o i p) ρ S v S2:=by
 unfold Ev
 rw [arm_eval_Subscript]
 exact RunC.bind LocRel.stab h1 fun x=>RunC.bind (LocRel.stab.and Stab.vrel) (RunC.holding (h2.pre fun σ h _ i=>i.1)) fun y=>
  RunC.at (Run.lift (jl6 (jnP h) (fun σ h i=>i.1.2) (mV hn) ((jxO r h).pre fun σ h _ i=>⟨i.1.2,i.2⟩)))
end
end Mine
end
section
open PySem PySem.W PyProof.Rows PySem.Calls
namespace Mine
noncomputable def loN (lo:Option Int) (n:Nat):Nat:=lo.elim 0 (clipAt n)
noncomputable def hiN (hi:Option Int) (n:Nat):Nat:=hi.elim n (clipAt n)
theorem wW {n:Nat} {i:Int} (h:0≤i):clipAt n i=min i.toNat n:=by
 obtain ⟨a,rfl⟩:∃ a:Nat,i=(a:Int):=⟨i.toNat,by lia⟩
 rw [clipAt_nat];simp
theorem joD {α:Type} {xs ys:List α} {lo hi:Option Int} (h:cut xs lo hi=some ys):ys=(xs.drop (loN lo xs.length)).take (hiN hi xs.length - loN lo xs.length)∧xs.length≤jC∧(∀ i,lo=some i→0≤i)∧∀ i,hi=some i→0≤i:=by
 unfold cut at h
 dsimp only at h
 split at h
 ·rename_i hc
  refine nQ hc fun h1 h2 h3 h4 h5=>?_
  obtain rfl:=Option.some.inj h
  refine ⟨?_,h5,fun i e=>by subst e;exact h1,fun i e=>by subst e;exact h3⟩
  have ea:loN lo xs.length=min (lo.getD 0).toNat xs.length:=by
   induction lo using Option.casesOn with
   | none=>simp [loN]
   | some i=>exact wW h1
  have eb:hiN hi xs.length=min (hi.getD xs.length).toNat xs.length:=by
   induction hi using Option.casesOn with
   | none=>simp [hiN]
   | some i=>exact wW h3
  rw [ea,eb]
  generalize (lo.getD 0).toNat=a
  generalize (hi.getD xs.length).toNat=b
  rw [List.drop_take]
  by_cases han:xs.length≤a
  ·rw [List.drop_eq_nil_of_le han,List.drop_eq_nil_of_le (by lia)];simp
  ·have e1:min a xs.length=a:=by lia
   rw [e1]
   by_cases hb:b≤xs.length
   ·have e2:min b xs.length=b:=by lia
    rw [e2]
   ·have e2:min b xs.length=xs.length:=by lia
    rw [e2,List.take_of_length_le (by simp;lia),List.take_of_length_le (by simp)]
 ·exact j0 h
noncomputable def jmL (lo hi:Option Int) (h:Heap) (w:Value):Prop:=∃ sl vl vu,w = .ref sl∧h.IsSliceOf sl vl vu .none∧IsPart vl lo∧IsPart vu hi
section
variable {c:Cx} {A:Around} {sc:Scope} {env:Env} {ρ:Loc} {n:Nat} {S S1 S2 S3:St} {σ:Sig} {h:Heap}
noncomputable def EvO (c:Cx) (A:Around) (sc:Scope) (env:Env) (o:Option Expr) (ρ:Loc) (S:St) (a:Option Int) (S':St):Prop:=RunC c A S (evalPart o env) S' (fun _ _ w=>IsPart w a) (fun σ h=>LocRel c σ h sc env ρ)
theorem jtN:EvO c A sc env none ρ S none S:=RunC.pure fun _ _ _=>.none
theorem jvJ {e:Expr} {i:Int} (h:Ev c A sc env e ρ S (.int i) S1):EvO c A sc env (some e) ρ S (some i) S1:=h.post fun σ h w _ V=>by
 refine xE V.int' fun t q1q=>?_;obtain rfl:=q1q
 ·exact .int _ t
theorem Stab.const {p:Prop}:Stab c (fun _ _=>p):=fun _ _ _ _ _ _ _ x=>x
theorem jpW {lo hi:Option Expr} {p:Pos} {a b:Option Int} (h1:EvO c A sc env lo ρ S a S1) (h2:EvO c A sc env hi ρ S1 b S2):RunC c A S (eval (.Slice lo hi none p) env) S2 (fun _ h w=>jmL a b h w) (fun σ h=>LocRel c σ h sc env ρ):=by
 rw [arm_eval_Slice]
 refine RunC.bind (t:=evalPart lo env) LocRel.stab h1 fun l=>?_
 refine RunC.bind (t:=PySem.holding [l] (evalPart hi env)) (LocRel.stab.and Stab.const) (RunC.holding (RunC.pre h2 fun σ h _ i=>i.1)) fun u=>?_
 refine RunC.bind (t:=PySem.holding [l,u] (evalPart none env)) ((LocRel.stab.and Stab.const).and Stab.const) (W:=fun _ h w=>jmL a b h w) (V:=fun _ _ w=>w = .none) (RunC.holding (RunC.pure fun _ _ _=>rfl)) fun st=>Run.lift ?_
 exact fun σ s Q E R i k=>i.2▸wpAny_newObj_type (k σ _ s.toks _ (R.push _) (.push _) ⟨_,l,u,rfl,.new ..,i.1.1.2,i.1.2⟩)
theorem jiD {lo hi:Option Int} {n:Nat} (h1:∀ i,lo=some i→0≤i) (h2:∀ i,hi=some i→0≤i):Builtin.Slice.sliceAdjust lo hi 1 (n:Int)=((loN lo n:Int),(hiN hi n:Int)):=by
 unfold Builtin.Slice.sliceAdjust
 have h0:¬ ((1:Int) < 0):=by decide
 dsimp only [h0,if_false]
 have e1:∀ i:Int,0≤i→(if i < 0 then max (i+n) 0 else min i (n:Int))=((min i.toNat n:Nat):Int):=fun i hi=>by
  rw [if_neg (by lia)];lia
 congr 1
 ·induction lo using Option.casesOn with
  | none=>rfl
  | some i=>rw [show loN (some i) n=clipAt n i from rfl,wW (h1 i rfl)];exact e1 i (h1 i rfl)
 ·induction hi using Option.casesOn with
  | none=>rfl
  | some i=>rw [show hiN (some i) n=clipAt n i from rfl,wW (h2 i rfl)];exact e1 i (h2 i rfl)
theorem jj3 (a b:Nat):Builtin.Slice.slicePlaces (a:Int) (b:Int) 1=b - a:=by
 unfold Builtin.Slice.slicePlaces
 have h1:(1:Int) > 0:=by decide
 simp only [h1,if_true,Int.ediv_one]
 split<;>lia
theorem tE {v:Value} {a:Option Int} {s:Shared} {Q:Option Int→Shared→Prop} {E:Value→Shared→Prop} (p:IsPart v a) (h:Q a s):wpAny (model c.prog c.w) A (Builtin.Slice.slicePartIndex v) Q E s:=by
 cases p with
 | none=>exact slicePart_none h
 | int i t=>exact slicePart_int h
theorem jkY {sl:Addr} {n:Nat} {vl vu:Value} {lo hi:Option Int} {s:Shared} {Q:Int×Int×Nat→Shared→Prop} {E:Value→Shared→Prop} (hs:s.heap.IsSliceOf sl vl vu .none) (p1:IsPart vl lo) (p2:IsPart vu hi)
  (h1:∀ i,lo=some i→0≤i) (h2:∀ i,hi=some i→0≤i) (h:Q ((loN lo n:Int),1,hiN hi n - loN lo n) s) :
  wpAny (model c.prog c.w) A (Builtin.Slice.sliceApplied (.ref sl) (pure (n:Int))) Q E s:=by
 refine yJ (id hs) fun os hos hcs hds=>?_
 refine wpAny_bind (wpAny_bind (wpAny_field hos hds (x:=vl) rfl (wpAny_bind (wpAny_field hos hds (x:=vu) rfl (wpAny_bind (wpAny_field hos hds (x:=.none) rfl (wpAny_pure ?_)))))))
 refine wpAny_bind (slicePart_none ?_)
 rw [if_neg (by decide)]
 refine wpAny_bind (tE p1 (wpAny_bind (tE p2 (wpAny_bind (wpAny_pure ?_)))))
 show wpAny _ _ (match Builtin.Slice.sliceAdjust lo hi 1 (n:Int) with | (lo,hi)=>pure (lo,(1:Int),Builtin.Slice.slicePlaces lo hi 1)) _ _ s
 rw [jiD h1 h2]
 show wpAny _ _ (pure ((loN lo n:Int),(1:Int),Builtin.Slice.slicePlaces (loN lo n:Int) (hiN hi n:Int) 1)) _ _ s
 rw [jj3]
 exact wpAny_pure h
theorem jn0 (xs:Array Value) (a k:Nat):((List.range k).filterMap fun (j:Nat)=>xs[((a:Int)+(j:Int)*1).toNat]?).toArray=((xs.toList.drop a).take k).toArray:=by
 have e:(fun (j:Nat)=>xs[((a:Int)+(j:Int)*1).toNat]?)=fun j=>xs[a+j]?:=by
  funext j
  have:((a:Int)+(j:Int)*1).toNat=a+j:=by lia
  rw [this]
 rw [e]
 have:=pick_run xs a k
 rw [List.filterMap_map] at this
 have e2:((fun x=>xs[x]?) ∘ fun x=>a+x)=fun j=>xs[a+j]?:=rfl
 rw [e2] at this
 rw [this]
theorem jr4 {xs ys:List AV} {lo hi:Option Int} {x iv:Value} (hc:cut xs lo hi=some ys):Run c A S (getItem x iv) S (fun σ h w=>VRel c σ h (.tup ys) w) (fun σ h=>VRel c σ h (.tup xs) x∧jmL lo hi h iv):=by
 intro σ s Q E R V q
 obtain ⟨V,sl,vl,vu,rfl,hs,p1,p2⟩:=V
 refine xAAA (joD hc) fun ey hl h1 h2=>?_
 refine jB V.tup' fun t vs q2q ht r=>?_;obtain rfl:=q2q
 ·
  have hlen:=r.length
  refine yJ (id hs) fun os hos hcs hds=>?_
  have hTs:s.TypeIs (.ref sl) "slice":=⟨os,hos,hcs⟩
  have hsl:=jT
  unfold jC at hl
  unfold getItem
  try with_reducible refine wpAny_holding ?_
  refine wpAny_bind (wpAny_sequenceKey ht.typeIs (by decide) ?_)
  refine wpAny_bind (wpAny_callSpecial?_slot (name:=Str.ofString "__getitem__") ht.typeIs slot_tuple_getitem
   (wpAny_call_entry slot_tuple_getitem ht.typeIs entry_tuple_getitem ?_ (args_tuple_getitem _ _)))
  show wpAny _ _ (Builtin.Tuple.tupleItemsOf (.ref t) >>= _) _ _ s
  refine wpAny_bind (tupleItemsOf_ ht ?_)
  refine wpAny_bind (wpAny_typeOf hTs ?_)
  rw [if_pos (by decide)]
  refine wpAny_bind (jkY hs p1 p2 h1 h2 ?_)
  rw [List.size_toArray,← hlen]
  show wpAny _ _ (if ((loN lo xs.length:Int)==0&&(1:Int)==1&&(hiN hi xs.length - loN lo xs.length)==xs.length)=true then _ else _) _ _ s
  by_cases hw:((loN lo xs.length:Int)==0&&(1:Int)==1&&(hiN hi xs.length - loN lo xs.length)==xs.length)=true
  ·rw [if_pos hw]
   simp only [Bool.and_eq_true,beq_iff_eq] at hw
   have z:loN lo xs.length=0:=by lia
   have e:ys=xs:=by
    rw [ey,z]
    have:hiN hi xs.length - 0=xs.length:=by lia
    rw [this];simp
   have ex:wpAny (model c.prog c.w) A.in1 (Builtin.Tuple.tupleIsExact (.ref t)) (fun b s'=>b=true∧s'=s) (fun v s'=>E v s') s:=by
    exact wpAny_bind (wpAny_typeOf ht.typeIs (wpAny_pure ⟨by decide,rfl⟩))
   refine wpAny_bind (wpAny_mono ex (fun b s' hb=>?_) fun _ _ e=>e)
   obtain ⟨rfl,rfl⟩:=hb
   dsimp only [if_true]
   refine wpAny_bind (wpAny_rule (wpAny_pure ⟨_,rfl,wpAny_pure (q σ _ _ _ R .refl ?_)⟩))
   rw [e]
   exact .tup _ t vs ht r
  ·rw [if_neg hw,jn0]
   have e2:(vs.toArray.toList.drop (loN lo xs.length)).take (hiN hi xs.length - loN lo xs.length)=(vs.drop (loN lo xs.length)).take (hiN hi xs.length - loN lo xs.length):=by rfl
   rw [e2]
   have rr:=(r.drop (loN lo xs.length)).take (hiN hi xs.length - loN lo xs.length)
   replace rr:=ey.symm▸rr
   have hle:((vs.drop (loN lo xs.length)).take (hiN hi xs.length - loN lo xs.length)).toArray.size≤sizeLine:=by
    rw [List.size_toArray,← rr.length,ey]
    simp only [List.length_take,List.length_drop]
    lia
   have fin:=q σ _ s.toks _ (R.push { cls:=.type "tuple",data:=.seq ((vs.drop (loN lo xs.length)).take (hiN hi xs.length - loN lo xs.length)).toArray }) (.push _) (.tup ys _ _ ⟨_,Heap.get?_push_size _ rfl,rfl,0,rfl⟩ (by
    have:=rr.mono (more:=[]) (zF { cls:=.type "tuple",data:=.seq ((vs.drop (loN lo xs.length)).take (hiN hi xs.length - loN lo xs.length)).toArray })
    rwa [List.append_nil] at this))
   first
    | exact wpAny_bind (m:=Builtin.Tuple.tupleExact _) (wpAny_newObj_type (wpAny_pure ⟨_,rfl,wpAny_pure fin⟩) hle)
    | exact wpAny_bind (m:=Builtin.Tuple.tupleExact _) (wpAny_newObj_type (wpAny_bind (wpAny_pure (wpAny_pure ⟨_,rfl,wpAny_pure fin⟩))) hle)
    | exact wpAny_bind (wpAny_bind (m:=Builtin.Tuple.tupleExact _) (wpAny_newObj_type (wpAny_pure (wpAny_pure ⟨_,rfl,wpAny_pure fin⟩)) hle))
end
noncomputable def jl4 (v:Value):Sem Value:=do
 if v == .none then return .none
 if (← specialOf v "__index__").isNone then
  rule "bytes.slice.part-no-index";raiseError "TypeError" "slice indices must be integers or None or have an __index__ method"
 return rawInt (← asIndex v)
theorem jfG (s:Value):Builtin.Bytes.sliceParts s=(do
  let step ← jl4 (← field s 2)
  if step==rawInt 0 then rule "bytes.slice.step-zero";raiseError "ValueError" "slice step cannot be zero"
  let start ← jl4 (← field s 0)
  let stop ← jl4 (← field s 1)
  return (start,stop,step)):=rfl
section
variable {c:Cx} {A:Around} {sc:Scope} {env:Env} {ρ:Loc} {n:Nat} {S S1 S2 S3:St} {σ:Sig} {h:Heap}
theorem ja6 {v:Value} {k:Option Int} {s:Shared} {Q:Value→Shared→Prop} {E:Value→Shared→Prop} {M:Model} (hv:IsPart v k) (h:Q (rawPart k) s):wpAny M A (jl4 v) Q E s:=by
 cases hv with
 | none=>exact wpAny_pure h
 | int i t=>
  unfold jl4
  rw [if_neg (show ¬ ((Value.int i t==Value.none)=true) from Bool.false_ne_true)]
  refine wpAny_bind (wpAny_specialOf (T:="int") (typeIs_int s i t) int_index ?_)
  exact wpAny_bind (wpAny_of_eq (a:=i) rfl (wpAny_pure h))
theorem jd4 {sl:Addr} {vl vu:Value} {lo hi:Option Int} {s:Shared} {Q:Value×Value×Value→Shared→Prop} {E:Value→Shared→Prop} {M:Model} (hs:s.heap.IsSliceOf sl vl vu .none) (p1:IsPart vl lo) (p2:IsPart vu hi)
  (h:Q (rawPart lo,rawPart hi,rawPart none) s):wpAny M A (Builtin.Bytes.sliceParts (.ref sl)) Q E s:=by
 refine yJ (id hs) fun os hos hcs hds=>?_
 rw [jfG]
 refine wpAny_bind (wpAny_field hos hds (x:=.none) rfl (wpAny_bind (ja6 .none ?_)))
 rw [if_neg (show ¬ ((rawPart none==rawInt 0)=true) from Bool.false_ne_true)]
 refine wpAny_bind (wpAny_field hos hds (x:=vl) rfl (wpAny_bind (ja6 p1 ?_)))
 exact wpAny_bind (wpAny_field hos hds (x:=vu) rfl (wpAny_bind (ja6 p2 (wpAny_pure h))))
theorem sliced_plain (b:List UInt8) (lo hi:Option Int):Builtin.Bytes.sliced b.toArray (loN lo b.length:Int) (hiN hi b.length:Int) 1=((b.drop (loN lo b.length)).take (hiN hi b.length - loN lo b.length)).toArray:=by
 unfold Builtin.Bytes.sliced
 simp only [sliceRange_one,pick_run]
theorem jjY {b ys:List UInt8} {lo hi:Option Int} {x iv:Value} (hc:cut b lo hi=some ys):Run c A S (getItem x iv) S (fun σ h w=>VRel c σ h (.bytes ys) w) (fun σ h=>VRel c σ h (.bytes b) x∧jmL lo hi h iv):=by
 refine Run.toks fun σ s Q E R V q=>?_
 obtain ⟨V,sl,vl,vu,rfl,hs,p1,p2⟩:=V
 refine xAAA (joD hc) fun ey hl h1 h2=>?_
 refine xE V.bytes' fun t q1q=>?_;obtain rfl:=q1q
 ·
  refine yJ (id hs) fun os hos hcs hds=>?_
  have hTs:s.TypeIs (.ref sl) "slice":=⟨os,hos,hcs⟩
  have hT:s.TypeIs (.bytes b.toArray t) "bytes":=rfl
  unfold getItem
  try with_reducible refine wpAny_holding ?_
  refine wpAny_bind (wpAny_sequenceKey hT (by decide) ?_)
  refine wpAny_bind (wpAny_callSpecial?_slot (name:=Str.ofString "__getitem__") hT FB.slot_bytes_getitem
   (wpAny_call_entry FB.slot_bytes_getitem hT FB.entry_bytes_getitem ?_ (FB.args_bytes_getitem_2 _ _)))
  show wpAny _ _ (Builtin.Bytes.subscript? (.ref sl) >>= fun r=>_) _ _ s
  refine wpAny_bind ?_
  unfold Builtin.Bytes.subscript?
  refine wpAny_bind (wpAny_specialOf hTs slice_no_index ?_)
  refine wpAny_pure ?_
  show wpAny _ _ (typeOf (.ref sl) >>= _) _ _ s
  refine wpAny_bind (wpAny_typeOf hTs ?_)
  rw [if_neg (by decide)]
  refine wpAny_bind (jd4 hs p1 p2 ?_)
  refine wpAny_bind (wpAny_of_eq (sliceIndices_raw lo hi none b.toArray.size (by decide)) ?_)
  rw [sliceBounds_plain,List.size_toArray]
  show wpAny _ _ (if ((loN lo b.length:Int)==0&&(1:Int)==1&&(hiN hi b.length:Int)==b.length&&!b.toArray.isEmpty)=true then _ else _) _ _ s
  by_cases hw:((loN lo b.length:Int)==0&&(1:Int)==1&&(hiN hi b.length:Int)==b.length&&!b.toArray.isEmpty)=true
  ·rw [if_pos hw]
   simp only [Bool.and_eq_true,beq_iff_eq] at hw
   have z:loN lo b.length=0:=by lia
   have z2:hiN hi b.length=b.length:=by lia
   have e:ys=b:=by
    rw [ey,z,z2];simp
   refine wpAny_bind (wpAny_typeOf hT ?_)
   rw [if_pos (by decide)]
   refine wpAny_bind (wpAny_rule (wpAny_pure ⟨_,rfl,wpAny_pure (q _ _ ?_)⟩))
   rw [e]
   exact .bytes b t
  ·rw [if_neg hw]
   show wpAny _ _ (mkBytes (Builtin.Bytes.sliced b.toArray (loN lo b.length:Int) (hiN hi b.length:Int) 1) >>= _) _ _ s
   rw [sliced_plain,← ey]
   have hle:ys.toArray.size≤sizeLine:=by
    have:=jT
    unfold jC at hl
    rw [ey,List.size_toArray]
    simp only [List.length_take,List.length_drop]
    lia
   exact wpAny_bind (wpAny_mkBytes (wpAny_pure ⟨_,rfl,wpAny_pure (q _ _ (.bytes ys _))⟩) hle)
theorem jtA {k:Nat} {b ys:List UInt8} {lo hi:Option Int} {x iv:Value} (hS:S[k]? = some (.ba b)) (hc:cut b lo hi=some ys):Run c A S (getItem x iv) (S++[.ba ys]) (fun σ h w=>VRel c σ h (.ref S.length) w) (fun σ h=>VRel c σ h (.ref k) x∧jmL lo hi h iv):=by
 intro σ s Q E R V q
 obtain ⟨V,sl,vl,vu,rfl,hs,p1,p2⟩:=V
 refine xAAA (joD hc) fun ey hl h1 h2=>?_
 refine jB (R.bar V hS) fun a m q2q _ ho=>?_;obtain rfl:=q2q
 refine yJ (id hs) fun os hos hcs hds=>?_
 have hTs:s.TypeIs (.ref sl) "slice":=⟨os,hos,hcs⟩
 have hT:s.TypeIs (.ref a) "bytearray":=⟨_,ho,rfl⟩
 unfold getItem
 try with_reducible refine wpAny_holding ?_
 refine wpAny_bind (wpAny_sequenceKey hT (by decide) ?_)
 refine wpAny_bind (wpAny_callSpecial?_slot (name:=Str.ofString "__getitem__") hT slot_bytearray_getitem
  (wpAny_call_entry slot_bytearray_getitem hT zI ?_ (yX _ _)))
 show wpAny _ _ (Builtin.Bytes.subscript? (.ref sl) >>= fun r=>_) _ _ s
 refine wpAny_bind ?_
 unfold Builtin.Bytes.subscript?
 refine wpAny_bind (wpAny_specialOf hTs slice_no_index ?_)
 refine wpAny_pure ?_
 show wpAny _ _ (typeOf (.ref sl) >>= _) _ _ s
 refine wpAny_bind (wpAny_typeOf hTs ?_)
 rw [if_neg (by decide)]
 refine wpAny_bind (jd4 hs p1 p2 ?_)
 refine wpAny_bind (yT ho ?_)
 show wpAny _ _ (sliceIndices (rawPart lo) (rawPart hi) (rawPart none) b.toArray.size >>= _) _ _ s
 refine wpAny_bind (wpAny_of_eq (sliceIndices_raw lo hi none b.toArray.size (by decide)) ?_)
 rw [sliceBounds_plain,List.size_toArray]
 show wpAny _ _ (Builtin.Bytes.newBytearray (Builtin.Bytes.sliced b.toArray (loN lo b.length:Int) (hiN hi b.length:Int) 1) >>= _) _ _ s
 rw [sliced_plain,← ey]
 have hle:ys.length≤sizeLine:=by
  have:=jT
  unfold jC at hl
  rw [ey]
  simp only [List.length_take,List.length_drop]
  lia
 refine wpAny_bind (wpAny_newObj_type (wpAny_pure ⟨_,rfl,wpAny_pure ?_⟩) (by show ys.toArray.size≤sizeLine;simpa using hle))
 refine q (σ++[(s.heap.objs.size,none)]) _ s.toks _ (R.alloc ?_) (.alloc _) ?_
 ·exact .ba ys _ 0 (Heap.get?_push_size _ rfl)
 ·refine .ref _ _ none ?_
  rw [R.len,List.getElem?_append_right (Nat.le_refl _),Nat.sub_self];rfl
theorem jkR {o v:AV} {lo hi:Option Int} {x iv:Value} (h:uX S o lo hi=some (v,S1)):Run c A S (getItem x iv) S1 (fun σ h w=>VRel c σ h v w) (fun σ h=>VRel c σ h o x∧jmL lo hi h iv):=by
 exact jeN (P:=fun o p=>Run c A S (getItem x iv) p.2 (fun σ h w=>VRel c σ h p.1 w) (fun σ h=>VRel c σ h o x∧jmL lo hi h iv)) h (fun xs ys hy=>jr4 hy) (fun b ys hy=>jjY hy) fun k b ys hS hy=>jtA hS hy
theorem ji0 {o v:AV} {lo hi:Option Int} {x:Value} (h:uX S o lo hi=some (v,S1)):xO c S o x:=
 jeN (P:=fun o _=>xO c S o x) h (fun xs ys hy=>jcG) (fun b ys hy=>mK) fun k b ys hS hy=>wK hS trivial
theorem jtK {o:Expr} {lo hi:Option Expr} {p p2:Pos} {a v:AV} {l u:Option Int} (h1:Ev c A sc env o ρ S a S1) (h2:EvO c A sc env lo ρ S1 l S2) (h3:EvO c A sc env hi ρ S2 u S3) {S4:St} (h:uX S3 a l u=some (v,S4)) :
  Ev c A sc env (.Subscript o (.Slice lo hi none p2) p) ρ S v S4:=by
 unfold Ev
 rw [arm_eval_Subscript]
 exact RunC.bind LocRel.stab h1 fun x=>RunC.bind (LocRel.stab.and Stab.vrel) (RunC.holding ((jpW h2 h3).pre fun σ h _ i=>i.1)) fun y=>
  RunC.at (Run.lift (jl6 (ji0 h) (fun σ h i=>i.1.2) rfl ((jkR h).pre fun σ h _ i=>⟨i.1.2,i.2⟩)))
end
end Mine
end
section
open PySem PySem.W PyProof.Rows PySem.Calls PySem.SeqAt
namespace Mine
section
variable {c:Cx} {σ:Sig} {S:St}
theorem uK {eq:AV→AV→Option Bool} {x y:AV} {xs ys:List AV} {r:Bool} (h:jU eq (x::xs) (y::ys)=some r):∃ a b,eq x y=some a∧jU eq xs ys=some b∧(a&&b)=r:=by
 revert h
 show (match eq x y,jU eq xs ys with | some x,some y=>some (x&&y) | _,_=>none)=some r→_
 generalize eq x y=p
 generalize jU eq xs ys=q
 exact match p,q with
  | some a,some b=>fun h=>⟨a,b,rfl,rfl,Option.some.inj h⟩
  | none,_=>j0
  | some _,none=>j0
theorem jb2 {eq:AV→AV→Option Bool} {xs:List AV}:∀ {ys:List AV} {r:Bool},jU eq xs ys=some r→∃ e:Nat→Bool,(∀ j x y,xs[j]? = some x→ys[j]? = some y→eq x y=some (e j))∧(List.range (min xs.length ys.length)).all e=r:=by
 induction xs with
 | nil=>exact fun {ys r} h=>⟨fun _=>true,fun j x y hx=>j0 hx,by rw [show (([]:List AV).length)=0 from rfl,Nat.zero_min];exact Option.some.inj h⟩
 | cons x xs ih=>
  intro ys r h
  induction ys using List.casesOn with
  | nil=>exact ⟨fun _=>true,fun j x y _ hy=>j0 hy,Option.some.inj h⟩
  | cons y ys=>
   refine jB (uK h) fun a b h1 h2 q4q=>?_;obtain rfl:=q4q
   refine xEA (ih h2) fun e he q2q=>?_;obtain rfl:=q2q
   refine ⟨fun j=>Nat.casesOn j a e,fun j u v hu hv=>?_,?_⟩
   ·induction j using Nat.casesOn with
    | zero=>obtain rfl:=Option.some.inj hu;obtain rfl:=Option.some.inj hv;exact h1
    | succ j=>exact he j u v hu hv
   ·rw [show min (x::xs).length (y::ys).length=min xs.length ys.length+1 from Nat.succ_min_succ ..,List.range_succ_eq_map,List.all_cons,List.all_map];rfl
theorem mR {eq:AV→AV→Option Bool} {h:Heap} (he:∀ a b r v,eq a b=some r→VRel c σ h a v→VRel c σ h b v→r=true) {xs:List AV}:∀ {ys:List AV} {vs:List Value} {r:Bool},jU eq xs ys=some r→VRels c σ h xs vs→VRels c σ h ys vs→r=true:=by
 induction xs with
 | nil=>exact fun h _ _=>(Option.some.inj h).symm
 | cons x xs ih=>
  intro ys vs r h V W
  refine jB V.cons' fun _ _ q2q a as=>?_;obtain rfl:=q2q
  ·cases W with
   | cons b bs=>
    refine jB (uK h) fun p q h1 h2 q4q=>?_;obtain rfl:=q4q
    rw [he _ _ _ _ h1 a b,ih h2 as bs];rfl
theorem jt0 {h:Heap} {a:Addr} {vs ws:List Value} (x:IsTup h a vs.toArray) (y:IsTup h a ws.toArray):vs=ws:=by
 refine jeU x fun o ho _ m hd=>?_
 refine jeU y fun o' ho' _ m' hd'=>?_
 have e:=(hd.symm.trans (congrArg Obj.data (Option.some.inj (ho.symm.trans ho')))).trans hd'
 injection e with e _
 exact congrArg Array.toList e
theorem juX {h:Heap} (R:Rep c σ S h) {j k:Nat} {a:Addr} {d d':Option Addr} (e1:σ[j]? = some (a,d)) (e2:σ[k]? = some (a,d')) (hlt:j < k):False:=by
 have nd:=R.nodup
 unfold jZ at nd
 rw [List.nodup_iff_pairwise_ne,List.pairwise_flatMap] at nd
 obtain ⟨l1,q1⟩:=List.getElem?_eq_some_iff.mp e1
 obtain ⟨l2,q2⟩:=List.getElem?_eq_some_iff.mp e2
 have:=List.pairwise_iff_getElem.mp nd.2 j k l1 l2 hlt
 rw [q1,q2] at this
 exact this a (.head _) a (.head _) rfl
theorem jx5 {h:Heap} (R:Rep c σ S h) {j k:Nat} {a:Addr} {d d':Option Addr} (e1:σ[j]? = some (a,d)) (e2:σ[k]? = some (a,d')):j=k:=
 Nat.le_antisymm (Nat.not_lt.1 (juX R e2 e1)) (Nat.not_lt.1 (juX R e1 e2))
theorem jpT {n:Nat} {P:AV→AV→Bool→Prop} (h0:P .none .none true) (h1:∀ ys,P .none (.tup ys) false) (h2:∀ xs,P (.tup xs) .none false) (h3:∀ x y,P (.bool x) (.bool y) (x==y)) (h4:∀ x y,P (.int x) (.int y) (decide (x=y))) (h5:∀ x y,P (.str x) (.str y) (decide (x=y)))
  (h6:∀ xs ys r,jU (eqV S n) xs ys=some r→P (.tup xs) (.tup ys) (r&&decide (xs.length=ys.length)))
  (h7:∀ j k xs ys r,S[j]? = some (.list xs)→S[k]? = some (.list ys)→(if xs.length=ys.length then jU (eqV S n) xs ys else some false)=some r→P (.ref j) (.ref k) r):∀ {a b:AV} {r:Bool},eqV S (n+1) a b=some r→P a b r:=by
 intro a b r h
 induction a using AV.casesOn with
 | none=>induction b using AV.casesOn with
  | none=>exact Option.some.inj h▸h0
  | tup ys=>exact Option.some.inj h▸h1 ys
  | _=>exact j0 h
 | bool x=>exact mO h fun y e q=>jpX e▸q▸h3 x y
 | int x=>exact mO h fun y e q=>yF e▸q▸h4 x y
 | str x=>exact mO h fun y e q=>jsS e▸q▸h5 x y
 | tup xs=>induction b using AV.casesOn with
  | none=>exact Option.some.inj h▸h2 xs
  | tup ys=>exact jY (C:=P (.tup xs) (.tup ys)) (fun r hr=>h6 xs ys r hr) h
  | _=>exact j0 h
 | ref j=>exact bO h fun k e h=>bO h fun xs e1 h=>bO h fun ys e2 h=>y0 e▸h7 j k xs ys r (listAt_eq e1) (listAt_eq e2) h
 | _=>exact j0 h
theorem jrA {h:Heap} (R:Rep c σ S h) {j k:Nat} {xs ys:List AV} {v:Value} (h1:S[j]? = some (.list xs)) (h2:S[k]? = some (.list ys)) (V:VRel c σ h (.ref j) v) (W:VRel c σ h (.ref k) v):ys=xs∧∃ vs,VRels c σ h xs vs:=by
 refine kE V.ref' fun ad d q2q hj=>?_;obtain rfl:=q2q
 ·refine kE W.ref' fun _ d' e10q hk=>?_;obtain rfl:=PySem.Value.ref.inj e10q
  ·
   obtain rfl:=jx5 R hj hk
   refine xEA (R.sig h1) fun p hp OR=>?_
   refine jB OR.list' fun _ vs q2q hp hv=>?_;obtain rfl:=q2q
   ·exact ⟨AO.list.inj (Option.some.inj (h2.symm.trans h1)),vs,hv⟩
theorem ju2 {h_:Heap} (R:Rep c σ S h_) (n:Nat):∀ (a b:AV) (r:Bool) (v:Value),eqV S n a b=some r→VRel c σ h_ a v→VRel c σ h_ b v→r=true:=by
 induction n with
 | zero=>exact fun a b r v h=>j0 h
 | succ n ih=>
  exact fun a b r v h=>jpT (P:=fun a b r=>VRel c σ h_ a v→VRel c σ h_ b v→r=true) (fun _ _=>rfl) (fun ys V W=>by obtain rfl:=V.none';cases W) (fun ys V W=>by obtain rfl:=W.none';cases V) (fun x y V W=>by obtain rfl:=V.bool';cases W;exact beq_self_eq_true x)
   (fun x y V W=>by refine xE V.int' fun _ q1q=>?_;obtain rfl:=q1q;cases W;exact decide_eq_true rfl) (fun x y V W=>by refine xE V.str' fun _ q1q=>?_;obtain rfl:=q1q;cases W;exact decide_eq_true rfl)
   (fun xs ys r hr V W=>by
    refine jB V.tup' fun ax vs q2q t1 r1=>?_;obtain rfl:=q2q
    ·refine jB W.tup' fun ay ws e12q t2 r2=>?_;obtain rfl:=PySem.Value.ref.inj e12q
     ·
      obtain rfl:=jt0 t1 t2
      rw [mR ih hr r1 r2,r1.length,r2.length,decide_eq_true rfl];rfl)
   (fun j k xs ys r h1 h2 hr V W=>by
    refine xAE (jrA R h1 h2 V W) fun q0q vs hv=>?_;obtain rfl:=q0q
    rw [if_pos rfl] at hr
    exact mR ih hr hv hv) h
theorem pairs_at {s:Shared} {eq:AV→AV→Option Bool} {A:Around} {e:Nat→Bool} {xs ys:List AV} {vs ws:List Value} (r1:VRels c σ s.heap xs vs) (r2:VRels c σ s.heap ys ws) (he:∀ j x y,xs[j]? = some x→ys[j]? = some y→eq x y=some (e j))
  (ok:∀ a b r v w,eq a b=some r→VRel c σ s.heap a v→VRel c σ s.heap b w→EqAt A s v w r):∀ j (h1:j < vs.toArray.size) (h2:j < ws.toArray.size),EqAt A s vs.toArray[j] ws.toArray[j] (e j):=by
 intro j h1 h2
 have l1:=r1.length
 have l2:=r2.length
 simp only [List.size_toArray] at h1 h2
 have g1:xs[j]? = some (xs[j]'(by lia)):=List.getElem?_eq_getElem (by lia)
 have g2:ys[j]? = some (ys[j]'(by lia)):=List.getElem?_eq_getElem (by lia)
 refine xEA (r1.get g1) fun v hv V1=>?_
 refine xEA (r2.get g2) fun w hw W1=>?_
 have e1:vs.toArray[j]=v:=by
  obtain ⟨_,q⟩:=List.getElem?_eq_some_iff.mp hv
  exact q
 have e2:ws.toArray[j]=w:=by
  obtain ⟨_,q⟩:=List.getElem?_eq_some_iff.mp hw
  simpa using q
 rw [e1,e2]
 exact ok _ _ _ _ _ (he j _ _ g1 g2) V1 W1
theorem beqD {α:Type} [BEq α] [LawfulBEq α] [DecidableEq α] (i j:α):(i==j)=decide (i=j):=Bool.eq_iff_iff.2 (beq_iff_eq.trans decide_eq_true_iff.symm)
theorem eqOf {s:Shared} {A:Around} {ax ay:Addr} {r:Bool} (same:∀ ad,Value.ref ax = .ref ad→Value.ref ay = .ref ad→r=true) (rc:RcAt A s (.ref ax) (.ref ay) r):EqAt A s (.ref ax) (.ref ay) r:=by
 by_cases hab:ax=ay
 ·subst hab
  rw [same ax rfl rfl]
  exact .same _
 ·exact .of_refs hab rc
theorem eqT_ok {s:Shared} (R:Rep c σ S s.heap) {n:Nat} {A:Around} (ih:∀ {a b:AV} {r:Bool} {x y:Value},eqV S n a b=some r→VRel c σ s.heap a x→VRel c σ s.heap b y→EqAt A.in1 s x y r) (hu:A.units < cLine)
  {xs ys:List AV} {r:Bool} {x y:Value} (hr:jU (eqV S n) xs ys=some r) (V:VRel c σ s.heap (.tup xs) x) (W:VRel c σ s.heap (.tup ys) y) (same:∀ ad,x = .ref ad→y = .ref ad→(r&&decide (xs.length=ys.length))=true) :
  EqAt A s x y (r&&decide (xs.length=ys.length))∧RcAt A s x y (r&&decide (xs.length=ys.length))∧RcNeAt A s x y (!(r&&decide (xs.length=ys.length))):=by
 refine xEA (jb2 hr) fun e he q2q=>?_;obtain rfl:=q2q
 refine jB V.tup' fun ax vs q2q t1 r1=>?_;obtain rfl:=q2q
 refine jB W.tup' fun ay ws q2q t2 r2=>?_;obtain rfl:=q2q
 have key:=pairs_at (A:=A.in1) r1 r2 he fun a b r v w h V W=>ih h V W
 have er:((List.range (min xs.length ys.length)).all e&&decide (xs.length=ys.length))=((List.range (min vs.toArray.size ws.toArray.size)).all e&&vs.toArray.size==ws.toArray.size):=by
  rw [List.size_toArray,List.size_toArray,r1.length,r2.length];rfl
 rw [er] at same ⊢
 have rc:RcAt A s (.ref ax) (.ref ay) _:=.tuples t1 t2 hu key
 exact ⟨eqOf same rc,rc,.tuples t1 t2 hu key⟩
theorem eqL_ok {s:Shared} (R:Rep c σ S s.heap) {n:Nat} {A:Around} (ih:∀ {a b:AV} {r:Bool} {x y:Value},eqV S n a b=some r→VRel c σ s.heap a x→VRel c σ s.heap b y→EqAt A.in1 s x y r) (hu:A.units < cLine)
  {j k:Nat} {xs ys:List AV} {r:Bool} {x y:Value} (h1:S[j]? = some (.list xs)) (h2:S[k]? = some (.list ys)) (h:(if xs.length=ys.length then jU (eqV S n) xs ys else some false)=some r) (V:VRel c σ s.heap (.ref j) x) (W:VRel c σ s.heap (.ref k) y) (same:∀ ad,x = .ref ad→y = .ref ad→r=true) :
  EqAt A s x y r∧RcAt A s x y r∧RcNeAt A s x y (!r):=by
 refine jL (R.list V h1) fun ax vs m1 sl1 q4q s1 o1 r1=>?_;obtain rfl:=q4q
 refine jL (R.list W h2) fun ay ws m2 sl2 q4q s2 o2 r2=>?_;obtain rfl:=q4q
 have il:s.heap.IsList ax vs.toArray:=⟨_,o1,rfl,m1,rfl⟩
 have il2:s.heap.IsList ay ws.toArray:=⟨_,o2,rfl,m2,rfl⟩
 by_cases hl:xs.length=ys.length
 ·rw [if_pos hl] at h
  refine xEA (jb2 h) fun e he q2q=>?_
  have key:=pairs_at (A:=A.in1) r1 r2 he fun a b r v w h V W=>ih h V W
  have er:(List.range vs.toArray.size).all e=r:=by rw [← q2q,hl,Nat.min_self,← hl,r1.length,List.size_toArray]
  have sz:vs.toArray.size=ws.toArray.size:=r1.length.symm.trans (hl.trans r2.length)
  have rc:RcAt A s (.ref ax) (.ref ay) r:=er▸.lists il il2 sz hu key
  exact ⟨eqOf same rc,rc,er▸.lists il il2 sz hu key⟩
 ·rw [if_neg hl] at h
  obtain rfl:=Option.some.inj h
  have sz:(vs.toArray.size != ws.toArray.size)=true:=bne_iff_ne.2 fun q=>hl (r1.length.trans (q.trans r2.length.symm))
  have rc:RcAt A s (.ref ax) (.ref ay) false:=.lists_lengths il il2 sz hu
  exact ⟨eqOf same rc,rc,.lists_lengths il il2 sz hu⟩
theorem n5 {s:Shared} (R:Rep c σ S s.heap):∀ (n:Nat) {A:Around} {a b:AV} {r:Bool} {x y:Value},eqV S n a b=some r→VRel c σ s.heap a x→VRel c σ s.heap b y→A.units+n < cLine→
  EqAt A s x y r∧RcAt A s x y r∧RcNeAt A s x y (!r)
 | 0,_,_,_,_,_,_,h,_,_,_=>j0 h
 | n+1,A,a,b,r,x,y,h,V,W,hu=>
  have same:∀ ad,x = .ref ad→y = .ref ad→r=true:=fun ad ex ey=>ju2 R (n+1) a b r x h V (by rw [ex];rw [ey] at W;exact W)
  have hA:A.units < cLine:=Nat.lt_of_le_of_lt (Nat.le_add_right _ _) hu
  jpT (P:=fun a b r=>VRel c σ s.heap a x→VRel c σ s.heap b y→(∀ ad,x = .ref ad→y = .ref ad→r=true)→EqAt A s x y r∧RcAt A s x y r∧RcNeAt A s x y (!r))
   (fun V W _=>by obtain rfl:=V.none';obtain rfl:=W.none';exact ⟨.same _,.none_none,.none_none⟩)
   (fun ys V W _=>V.none'▸jB W.tup' fun a vs q t _=>q▸⟨.none_tuple t hA,.none_tuple t hA,.none_tuple t hA⟩)
   (fun xs V W _=>W.none'▸jB V.tup' fun a vs q t _=>q▸⟨.tuple_none t hA,.tuple_none t hA,.tuple_none t hA⟩)
   (fun x y V W _=>V.bool'▸W.bool'▸⟨.bool_bool _ _,.bool_bool _ _,.bool_bool _ _⟩)
   (fun i j V W _=>xE V.int' fun _ q=>xE W.int' fun _ q'=>q▸q'▸beqD i j▸⟨.int_int _ _ _ _,.int_int _ _ _ _,.int_int _ _ _ _⟩)
   (fun i j V W _=>xE V.str' fun _ q=>xE W.str' fun _ q'=>q▸q'▸beqD i j▸⟨.str_str _ _ _ _,.str_str _ _ _ _,.str_str _ _ _ _⟩)
   (fun xs ys r hr V W same=>eqT_ok R (fun h V W=>(n5 R n (A:=A.in1) h V W (by show A.units+1+n < cLine;lia)).1) hA hr V W same)
   (fun j k xs ys r h1 h2 hr V W same=>eqL_ok R (fun h V W=>(n5 R n (A:=A.in1) h V W (by show A.units+1+n < cLine;lia)).1) hA h1 h2 hr V W same) h V W same
theorem je8 {A:Around} {s:Shared} {E:Value→Shared→Prop} {Q:Bool→Shared→Prop} (R:Rep c σ S s.heap) (Y:kS c) {j k:Nat} {da db:Addr} {f g:Nat} {es fs:List (AV×AV)} {ep ep':Nat} {ds ds':List DictEntry} {nm:String} {r:Bool}
  (D:DictAt c σ s.heap j da f es ep ds) (D':DictAt c σ s.heap k db g fs ep' ds') (hu:A.units+12 < cLine)
  (he:(if es.length=fs.length then (if f=g∨es=[] then wM (eqV S 6) fs es else none) else some false)=some r) (h:Q r s) :
  wpAny (model c.prog c.w) A (Builtin.Dict.samePairs nm da db) Q E s:=by
 have l1:=D.rel.length
 have l2:=D'.rel.length
 delta Builtin.Dict.samePairs Builtin.Dict.showsAll
 rw [if_neg (show ¬ (da==sysModules)=true by rw [D.sys Y];exact Bool.false_ne_true),if_neg (show ¬ (db==sysModules)=true by rw [D'.sys Y];exact Bool.false_ne_true)]
 refine wpAny_bind (wpAny_pure (wpAny_bind (wpAny_pure ?_)))
 refine wpAny_bind (wpAny_dictEntries D.get rfl ?_)
 refine wpAny_bind (wpAny_dictEntries D'.get rfl ?_)
 split at he
 case isFalse hsz=>
  obtain rfl:=Option.some.inj he
  rw [if_pos (by simp only [List.size_toArray,bne_iff_ne];lia)]
  exact wpAny_bind (wpAny_rule (wpAny_pure h))
 case isTrue hsz=>
  split at he
  case isFalse=>exact j0 he
  case isTrue hfg=>
   rw [if_neg (by simp only [List.size_toArray,bne_iff_ne];lia)]
   refine wpAny_bind (wpAny_dictEpoch D.get rfl ?_)
   refine wpAny_bind ?_
   rw [Std.Legacy.Range.forIn_eq_forIn_range']
   refine wpAny_forIn_list _
    (fun rest q s'=>s'=s∧q=(none,())∧∃ i,rest=List.range' i (ds.toArray.size - i)∧i≤ds.toArray.size∧wM (eqV S 6) fs (es.drop i)=some r)
    _ ?_ ?_ _ _ ⟨rfl,rfl,0,by simp,Nat.zero_le _,by exact he⟩
   ·rintro x rest q s' ⟨rfl,rfl,i,hr,hi,hpre⟩
    have hlt:i < ds.toArray.size:=by
     rcases Nat.lt_or_ge i ds.toArray.size with h | h
     ·exact h
     ·rw [Nat.sub_eq_zero_of_le h] at hr;simp at hr
    obtain ⟨rfl,hrest⟩:x=i∧rest=List.range' (i+1) (ds.toArray.size - (i+1)):=by
     have e:ds.toArray.size - i=(ds.toArray.size - (i+1))+1:=by lia
     rw [e,List.range'_succ] at hr
     injection hr with h1 h2
     exact ⟨h1,h2⟩
    replace hlt:=List.size_toArray▸hlt
    have hx:x < es.length:=by lia
    obtain ⟨kv,hkv⟩:∃ kv,es[x]? = some kv:=⟨_,List.getElem?_eq_getElem hx⟩
    obtain ⟨key,val⟩:=kv
    have hdrop:es.drop x=(key,val)::es.drop (x+1):=by
     obtain ⟨_,q⟩:=List.getElem?_eq_some_iff.mp hkv
     rw [← q];exact List.drop_eq_getElem_cons hx
    refine jB (D.rel.at hkv) fun vk vv hd V1 V2=>?_
    refine wpAny_bind (wpAny_dictEntries D.get rfl ?_)
    have e1:ds.toArray[x]? = some ⟨yV c key,vk,vv⟩:=by rw [List.getElem?_toArray,hd]
    rw [e1]
    replace hpre:=hdrop▸hpre
    have hfk:=D.fls (key,val) (List.mem_of_getElem? hkv)
    have hflv:∀ e∈fs,j7 e.1=j7 key:=by
     intro e he'
     have:=D'.fls e he'
     rcases hfg with q | q
     ·rw [this.2,hfk.2,q]
     ·rw [q] at hkv;simp at hkv
    refine wpAny_bind (wpAny_holding (wpAny_bind (gW hu hfk.1 hflv V1 D'.get D'.rel D'.nd ?_)))
    simp only [wM] at hpre
    cases hg:j6 key fs with
    | none=>
     rw [(z7 hg).1]
     rw [hg] at hpre
     obtain rfl:=Option.some.inj hpre
     refine wpAny_pure ?_
     show wpAny _ _ (if (!false)=true then _ else _) _ _ _
     rw [if_pos (by decide)]
     exact wpAny_pure (wpAny_pure h)
    | some u=>
     refine xEA (vE hg) fun jj e2 e3=>?_
     refine jB (D'.rel.at e3) fun uk uv hd' _ U2=>?_
     rw [e2]
     refine wpAny_bind (wpAny_dictEntries D'.get rfl ?_)
     have e4:ds'.toArray[jj]? = some ⟨yV c key,uk,uv⟩:=by rw [List.getElem?_toArray,hd']
     rw [e4]
     replace hpre:=hg▸hpre
     dsimp only at hpre
     cases hv:eqV S 6 val u with
     | none=>replace hpre:=hv▸hpre;exact j0 hpre
     | some b=>
      rw [hv] at hpre
      have q:=(n5 R 6 (A:=A) hv V2 U2 (by lia)).1
      refine wpAny_holding (q c.prog c.w _ _ ?_)
      induction b using Bool.casesOn with
      | false=>
       obtain rfl:=Option.some.inj hpre
       show wpAny _ _ (if (!false)=true then _ else _) _ _ _
       rw [if_pos (by decide)]
       exact wpAny_pure (wpAny_pure h)
      | true=>
       show wpAny _ _ (if (!true)=true then _ else _) _ _ _
       rw [if_neg (by decide)]
       refine wpAny_bind (wpAny_dictEpoch D.get rfl ?_)
       rw [if_neg (by simp)]
       exact wpAny_pure ⟨rfl,rfl,x+1,hrest,by simp only [List.size_toArray];lia,hpre⟩
   ·rintro q s' ⟨rfl,rfl,i,hr,hi,hpre⟩
    have hin:i=ds.toArray.size:=by
     rcases Nat.lt_or_ge i ds.toArray.size with h | h
     ·have e:ds.toArray.size - i=(ds.toArray.size - (i+1))+1:=by lia
      rw [e,List.range'_succ] at hr;exact nomatch hr
     ·exact Nat.le_antisymm hi h
    refine wpAny_pure ?_
    rw [hin,List.size_toArray,← l1,List.drop_length] at hpre
    obtain rfl:=Option.some.inj hpre
    exact h
end
end Mine
end
section
open PySem PySem.W PyProof.Rows PySem.Calls PySem.SeqAt
namespace Mine
section
variable {c:Cx} {A:Around} {n:Nat} {S:St}
theorem jq1 (Y:kS c) (r:Room A n) {a b:AV} {q:Bool} (h:xC S a b=some q) (x y:Value):Run c A S (compareOp .Eq x y) S (fun _ _ w=>w = .bool q) (fun σ h=>VRel c σ h a x∧VRel c σ h b y):=by
 refine Run.toks fun σ s Q E R V k=>?_
 have hu:=r.units
 refine jg7 (P:=fun a b=>VRel c σ s.heap a x∧VRel c σ s.heap b y→wpAny (model c.prog c.w) A (compareOp .Eq x y) Q E s) h (fun h V=>(n5 R 6 (A:=A) h V.1 V.2 (by lia)).2.1 c.prog c.w _ _ (k _ s.toks rfl)) (fun _ _ _ _ _ _ _ _ h1 h2 h V=>?_) V
 refine kE (R.dict V.1 h1) fun d ds q2q D=>?_;obtain rfl:=q2q
 refine kE (R.dict V.2 h2) fun d' ds' q2q D'=>?_;obtain rfl:=q2q
 refine wpAny_richCompare_same_room (op:=.Eq) D.typeIs D'.typeIs PySem.F.slot_dict_eq (wpAny_call_entry PySem.F.slot_dict_eq D.typeIs PySem.F.entry_dict_eq ?_ (PySem.F.args_dict_eq_2 _ _)) (by lia)
 refine wpAny_bind ?_
 refine wpAny_bind (wpAny_notOrdered_dict D.typeIs ?_)
 refine wpAny_pure ?_
 refine wpAny_bind (wpAny_isInstance (T:="dict") D'.typeIs PySem.F.sub_dict_dict ?_)
 simp only [Bool.not_true,Bool.false_eq_true,if_false]
 refine wpAny_bind (wpAny_pure (wpAny_bind (wpAny_pure ?_)))
 refine wpAny_bind (je8 R Y D D' r.in1 h ?_)
 refine wpAny_pure ⟨_,rfl,?_,?_⟩
 ·exact fun x=>nomatch x
 ·have e:(q==true)=q:=by induction q using Bool.casesOn<;>rfl
  exact k _ s.toks (by rw [e])
theorem jqH (Y:kS c) (r:Room A n) {a b:AV} {q:Bool} (h:xC S a b=some q) (x y:Value):Run c A S (compareOp .NotEq x y) S (fun _ _ w=>w = .bool (!q)) (fun σ h=>VRel c σ h a x∧VRel c σ h b y):=by
 refine Run.toks fun σ s Q E R V k=>?_
 have hu:=r.units
 refine jg7 (P:=fun a b=>VRel c σ s.heap a x∧VRel c σ s.heap b y→wpAny (model c.prog c.w) A (compareOp .NotEq x y) Q E s) h (fun h V=>(n5 R 6 (A:=A) h V.1 V.2 (by lia)).2.2 c.prog c.w _ _ (k _ s.toks rfl)) (fun _ _ _ _ _ _ _ _ h1 h2 h V=>?_) V
 refine kE (R.dict V.1 h1) fun d ds q2q D=>?_;obtain rfl:=q2q
 refine kE (R.dict V.2 h2) fun d' ds' q2q D'=>?_;obtain rfl:=q2q
 refine wpAny_richCompare_same_room (op:=.NotEq) D.typeIs D'.typeIs PySem.F.slot_dict_ne (wpAny_call_entry PySem.F.slot_dict_ne D.typeIs PySem.F.entry_dict_ne ?_ (PySem.F.args_dict_ne_2 _ _)) (by lia)
 refine wpAny_bind ?_
 refine wpAny_bind (wpAny_notOrdered_dict D.typeIs ?_)
 refine wpAny_pure ?_
 refine wpAny_bind (wpAny_isInstance (T:="dict") D'.typeIs PySem.F.sub_dict_dict ?_)
 simp only [Bool.not_true,Bool.false_eq_true,if_false]
 refine wpAny_bind (wpAny_pure (wpAny_bind (wpAny_pure ?_)))
 refine wpAny_bind (je8 R Y D D' r.in1 h ?_)
 refine wpAny_pure ⟨_,rfl,?_,?_⟩
 ·exact fun x=>nomatch x
 ·have e:(q==false)=!q:=by induction q using Bool.casesOn<;>rfl
  exact k _ s.toks (by rw [e])
theorem jgM {x:AV}:∀ {ys:List AV} {r:Bool},mY S x ys=some r→(∀ y∈ys,∃ b,eqV S 6 y x=some b)∧(r=true ↔ ∃ y∈ys,eqV S 6 y x=some true)
 | [],r,h=>by
  simp only [mY,Option.some.injEq] at h
  subst h
  exact ⟨fun y hy=>by simp at hy,by simp⟩
 | y::ys,r,h=>by
  simp only [mY] at h
  split at h
  ·rename_i a b h1 h2
   obtain rfl:=Option.some.inj h
   refine xA (jgM h2) fun i1 i2=>?_
   refine ⟨fun z hz=>?_,?_⟩
   ·rcases List.mem_cons.mp hz with rfl | hz
    ·exact ⟨a,h1⟩
    ·exact i1 z hz
   ·constructor
    ·intro h
     rw [Bool.or_eq_true] at h
     rcases h with h | h
     ·subst h;exact ⟨y,.head _,h1⟩
     ·refine xEA (i2.mp h) fun z hz e=>?_
      exact ⟨z,.tail _ hz,e⟩
    ·rintro ⟨z,hz,e⟩
     rw [Bool.or_eq_true]
     rcases List.mem_cons.mp hz with rfl | hz
     ·rw [h1] at e;obtain rfl:=Option.some.inj e;exact .inl rfl
     ·exact .inr (i2.mpr ⟨z,hz,e⟩)
  ·exact j0 h
theorem VRels.mem {σ:Sig} {h:Heap} {xs:List AV} {vs:List Value} (V:VRels c σ h xs vs):(∀ v∈vs,∃ x∈xs,VRel c σ h x v)∧∀ x∈xs,∃ v∈vs,VRel c σ h x v:=
 V.ind (P:=fun xs vs=>(∀ v∈vs,∃ x∈xs,VRel c σ h x v)∧∀ x∈xs,∃ v∈vs,VRel c σ h x v) ⟨fun v hv=>(List.not_mem_nil hv).elim,fun x hx=>(List.not_mem_nil hx).elim⟩ fun x v xs vs a _ i=>
  ⟨fun w hw=>(List.mem_cons.mp hw).elim (fun e=>⟨x,.head _,e▸a⟩) fun hw=>xEA (i.1 w hw) fun y hy e=>⟨y,.tail _ hy,e⟩,fun y hy=>(List.mem_cons.mp hy).elim (fun e=>⟨v,.head _,e▸a⟩) fun hy=>xEA (i.2 y hy) fun w hw e=>⟨w,.tail _ hw,e⟩⟩
open Classical in
theorem jiU {σ:Sig} {s:Shared} {x:AV} {xv:Value} {ys:List AV} {vs:List Value} {q:Bool} (R:Rep c σ S s.heap) (hu:A.units+8 < cLine) (V:VRel c σ s.heap x xv) (r:VRels c σ s.heap ys vs) (h:mY S x ys=some q) :
  ∃ e:Value→Bool,(∀ y,y∈vs.toArray→EqAt A.in1 s y xv (e y))∧vs.toArray.any e=q:=by
 refine xA (jgM h) fun i1 i2=>?_
 have dec:∀ y∈vs,∃ ya∈ys,∃ b,eqV S 6 ya x=some b∧EqAt A.in1 s y xv b:=fun y hy=>by
  refine xEA ((VRels.mem r).1 y hy) fun ya hya Vy=>?_
  refine xE (i1 ya hya) fun b hb=>?_
  exact ⟨ya,hya,b,hb,(n5 R 6 (A:=A.in1) hb Vy V (by show A.units+1+6 < cLine;lia)).1⟩
 induction q using Bool.casesOn with
 | false=>
  refine ⟨fun _=>false,fun y hy=>?_,by rw [List.any_toArray];exact List.any_eq_false.mpr fun _ _=>Bool.false_ne_true⟩
  refine jp3 (dec y (by simpa using hy)) fun ya hya b hb E=>?_
  induction b using Bool.casesOn with
  | false=>exact E
  | true=>exact absurd (i2.mpr ⟨ya,hya,hb⟩) (by decide)
 | true=>
  refine ⟨fun y=>decide (EqAt A.in1 s y xv true),fun y hy=>?_,?_⟩
  ·show EqAt A.in1 s y xv (decide (EqAt A.in1 s y xv true))
   by_cases he:EqAt A.in1 s y xv true
   ·rw [decide_eq_true he];exact he
   ·rw [decide_eq_false he]
    refine jp3 (dec y (by simpa using hy)) fun ya hya b hb E=>?_
    induction b using Bool.casesOn with
    | false=>exact E
    | true=>exact absurd E he
  ·rw [List.any_toArray,List.any_eq_true]
   refine xEA (i2.mp rfl) fun ya hya e=>?_
   refine xEA ((VRels.mem r).2 ya hya) fun v hv Vv=>?_
   exact ⟨v,hv,decide_eq_true (n5 R 6 (A:=A.in1) e Vv V (by show A.units+1+6 < cLine;lia)).1⟩
theorem in_run (Y:kS c) (r:Room A n) {a b:AV} {q:Bool} (h:inV S a b=some q) (x y:Value):Run c A S (compareOp .In x y) S (fun _ _ w=>w = .bool q) (fun σ h=>VRel c σ h a x∧VRel c σ h b y):=by
 have hu:=r.units
 refine jpQ (P:=fun b q=>Run c A S (compareOp .In x y) S (fun _ _ w=>w = .bool (q)) (fun σ h=>VRel c σ h a x∧VRel c σ h b y)) h (fun ys h=>?_) (fun k' ys hS h=>?_) fun k' fl es ep hS h1 h2=>?_
 ·refine Run.toks fun σ s Q E R V k=>?_
  refine jB V.2.tup' fun ad vs q2q t rr=>?_;obtain rfl:=q2q
  refine xEA (jiU (A:=A) R (by lia) V.1 rr h) fun e he hq=>?_
  exact in_tupleAt e t he (k _ s.toks (by rw [hq]))
 ·refine Run.toks fun σ s Q E R V k=>?_
  refine jL (R.list V.2 hS) fun ad vs m sl q4q _ ho rr=>?_;obtain rfl:=q4q
  refine xEA (jiU (A:=A) R (by lia) V.1 rr h) fun e he hq=>?_
  exact in_listAt e ⟨_,ho,rfl,m,rfl⟩ he (k _ s.toks (by rw [hq]))
 ·refine Run.bind (Stab.vrel.and Stab.vrel) ((in_dict Y r hS h1 h2).pre fun σ h _ i=>⟨i.2,i.1⟩) fun b=>?_
  refine Run.pure fun σ h i=>?_
  rw [i.2]
theorem jqU (Y:kS c) (r:Room A n) {a b:AV} {q:Bool} (h:inV S a b=some q) (x y:Value):Run c A S (compareOp .NotIn x y) S (fun _ _ w=>w = .bool (!q)) (fun σ h=>VRel c σ h a x∧VRel c σ h b y):=by
 have hu:=r.units
 refine jpQ (P:=fun b q=>Run c A S (compareOp .NotIn x y) S (fun _ _ w=>w = .bool (!q)) (fun σ h=>VRel c σ h a x∧VRel c σ h b y)) h (fun ys h=>?_) (fun k' ys hS h=>?_) fun k' fl es ep hS h1 h2=>?_
 ·refine Run.toks fun σ s Q E R V k=>?_
  refine jB V.2.tup' fun ad vs q2q t rr=>?_;obtain rfl:=q2q
  refine xEA (jiU (A:=A) R (by lia) V.1 rr h) fun e he hq=>?_
  exact notIn_tupleAt e t he (k _ s.toks (by rw [hq]))
 ·refine Run.toks fun σ s Q E R V k=>?_
  refine jL (R.list V.2 hS) fun ad vs m sl q4q _ ho rr=>?_;obtain rfl:=q4q
  refine xEA (jiU (A:=A) R (by lia) V.1 rr h) fun e he hq=>?_
  exact notIn_listAt e ⟨_,ho,rfl,m,rfl⟩ he (k _ s.toks (by rw [hq]))
 ·refine Run.bind (Stab.vrel.and Stab.vrel) ((in_dict Y r hS h1 h2).pre fun σ h _ i=>⟨i.2,i.1⟩) fun b=>?_
  refine Run.pure fun σ h i=>?_
  rw [i.2]
theorem VRel.isNone {σ:Sig} {h:Heap} {a:AV} {x:Value} (V:VRel c σ h a x):(x == .none)=decide (a = .none):=by
 induction V using VRel.casesOn<;>simp
theorem jj0 (Y:kS c) (r:Room A n):jbI c A:=by
 intro S op a b q h x y
 have num:∀ (p:Int→Int→Bool) (op:CmpOp),(∀ (i j:Int) (t u:Tok) (s:Shared) (Q:Value→Shared→Prop) (E:Value→Shared→Prop),Q (.bool (p i j)) s→wpAny (model c.prog c.w) A (compareOp op (.int i t) (.int j u)) Q E s)→cmpI p a b=some q→
   Run c A S (compareOp op x y) S (fun _ _ w=>w = .bool q) (fun σ h=>VRel c σ h a x∧VRel c σ h b y):=fun p op H h=>
  jtW (P:=fun a b q=>Run c A S (compareOp op x y) S (fun _ _ w=>w = .bool q) (fun σ h=>VRel c σ h a x∧VRel c σ h b y)) h fun i j=>Run.toks fun σ s Q E R V k=>
   xE V.1.int' fun t q1=>xE V.2.int' fun u q2=>q1▸q2▸H i j t u s Q E (k _ s.toks rfl)
 induction op using PySem.CmpOp.casesOn with
 | Eq=>exact jq1 Y r h x y
 | NotEq=>exact mO h fun q' hq e=>e▸jqH Y r hq x y
 | Lt=>exact num _ _ (fun i j t u s Q E h=>wpAny_lt_int h) h
 | LtE=>exact num _ _ (fun i j t u s Q E h=>PyProof.Rows.le_int h) h
 | Gt=>exact num _ _ (fun i j t u s Q E h=>PyProof.Rows.gt_int h) h
 | GtE=>exact num _ _ (fun i j t u s Q E h=>PyProof.Rows.ge_int h) h
 | Is=>exact mO h fun _ eb e=>jgE eb▸e▸Run.toks fun σ s Q E R V k=>V.2.none'▸is_none_gen (k _ s.toks (congrArg Value.bool V.1.isNone))
 | IsNot=>exact mO h fun _ eb e=>jgE eb▸e▸Run.toks fun σ s Q E R V k=>V.2.none'▸isnot_none_gen (k _ s.toks (congrArg Value.bool ((congrArg not V.1.isNone).trans decide_not.symm)))
 | In=>exact in_run Y r h x y
 | NotIn=>exact mO h fun q' hq e=>e▸jqU Y r hq x y
end
end Mine
end
section
open PySem PySem.W PyProof.Rows PySem.Calls
namespace Mine
noncomputable def IsDs (h:Heap) (d:Addr) (ds:List DictEntry) (ep:Nat):Prop:=h.get? d=some ⟨.type "dict",none,.dict ds.toArray ep,#[]⟩
theorem IsDs.typeIs {s:Shared} {d:Addr} {ds:List DictEntry} {ep:Nat} (x:IsDs s.heap d ds ep):s.TypeIs (.ref d) "dict":=⟨_,x,rfl⟩
section
variable {prog:Program} {w:World} {A:Around} {E:Value→Shared→Prop} {s:Shared} {d:Addr} {ds:List DictEntry} {ep:Nat}
theorem jgC {Q:Value→Shared→Prop} (hd:(d==sysModules)=false) (hm:IsDs s.heap d ds ep)
  (hQ:Q (.ref s.heap.objs.size) { s with heap:=s.heap.push { cls:=.type "dict_keyiterator",data:=.fields #[.ref d,.int 0 0,.int ds.length 0,.int ep 0]}}) :
  wpAny (model prog w) A (pyIter (.ref d)) Q E s:=by
 have hT:=hm.typeIs
 refine wpAny_pyIter_slot hT F.slot_dict_iter (wpAny_call_entry F.slot_dict_iter hT F.entry_dict_iter ?_ (F.args_dict_iter_1 _))
 unfold Builtin.«dict.__iter__»
 refine wpAny_bind ?_
 refine wpAny_bind (wpAny_notOrdered_dict hT ?_)
 show wpAny _ _ (pure (Value.ref d)) _ _ s
 refine wpAny_pure ?_
 show wpAny _ _ (Builtin.Dict.showsAll d >>= _) _ _ s
 unfold Builtin.Dict.showsAll
 rw [if_neg (by rw [hd];exact Bool.false_ne_true)]
 refine wpAny_bind (wpAny_pure ?_)
 refine wpAny_bind (wpAny_dictEntries hm rfl ?_)
 refine wpAny_bind (wpAny_dictEpoch hm rfl ?_)
 refine wpAny_bind (wpAny_newObj_type (wpAny_pure ⟨_,rfl,"dict_keyiterator",_,⟨_,Heap.get?_push_size _ rfl,rfl⟩,F.slot_dict_keyiterator_next.lookup,?_⟩))
 exact hQ
theorem jp1 {it:Addr} {i:Nat} {e:DictEntry} {Q:Option Value→Shared→Prop} (hit:s.heap.IsKeyIter it d i ds.length ep)
  (hm:IsDs s.heap d ds ep) (hx:ds[i]? = some e)
  (hQ:∀ h',h'.IsKeyIter it d (i+1) ds.length ep→Heap.SameBut it s.heap h'→Q (some e.key) { s with heap:=h' }) :
  wpAny (model prog w) A (pyNext (.ref it)) Q E s:=by
 refine yJ (id hit) fun o ho hc hd=>?_
 refine wpAny_bind (wpAny_attempt (wpAny_callSpecial?_slot (name:=Str.ofString "__next__") hit.typeIs F.slot_dict_keyiterator_next
  (wpAny_call_entry F.slot_dict_keyiterator_next hit.typeIs F.entry_dict_keyiterator_next ?_ (F.args_dict_keyiterator_next_1 _))))
 refine wpAny_bind (wpAny_pure ?_)
 refine wpAny_bind ?_
 refine wpAny_bind ?_
 first | refine wpAny_bind (wpAny_typeNameOfWhole_keyiter hit.typeIs (wpAny_pure ?_)) | refine wpAny_bind (wpAny_typeNameOf_keyiter hit.typeIs (wpAny_pure ?_))
 refine wpAny_bind (wpAny_fieldsOf ho hd ?_)
 have hown:Builtin.Dict_items.ownsTuple "dict_keyiterator" = false:=by decide
 show wpAny _ _ (if (Value.ref d==Value.none)=true then _ else _) _ _ s
 rw [if_neg (show ¬ ((Value.ref d==Value.none)=true) from Bool.false_ne_true)]
 refine wpAny_bind (wpAny_pure ?_)
 refine wpAny_bind (wpAny_dictEntries hm rfl ?_)
 rw [if_neg (by simp)]
 refine wpAny_bind (wpAny_pure ?_)
 refine wpAny_bind (wpAny_dictEpoch hm rfl ?_)
 rw [if_neg (by simp)]
 refine wpAny_pure ?_
 have hlt:i < ds.length:=(List.getElem?_eq_some_iff.mp hx).1
 have hx':ds.toArray[i]? = some e:=by rw [List.getElem?_toArray,hx]
 simp only [show ¬ ((i:Int) < 0) from by lia,if_false,Int.toNat_natCast,hx']
 refine wpAny_bind ?_
 first | refine wpAny_bind (wpAny_typeNameOfWhole_keyiter hit.typeIs (wpAny_pure ?_)) | refine wpAny_bind (wpAny_typeNameOf_keyiter hit.typeIs (wpAny_pure ?_))
 refine wpAny_bind (wpAny_isOneOf_keyiter hit.typeIs ?_)
 show wpAny _ _ (setField (.ref it) 1 (rawInt ((i:Int)+1)) >>= _) _ _ s
 refine wpAny_bind (wpAny_setField ho hd (by simp) ?_)
 have hit':(s.heap.update it (Obj.mapFields (·.setIfInBounds 1 (rawInt ((i:Int)+1))))).IsKeyIter it d (i+1) ds.length ep:=
  ⟨_,Heap.get?_update_self _ ho (Obj.isFreed_of_fields (Obj.data_mapFields hd _)),(Obj.cls_mapFields ..).trans hc,by rw [Obj.data_mapFields hd];simp [rawInt]⟩
 refine wpAny_bind (wpAny_holding ?_)
 refine wpAny_bind (wpAny_isOneOf_keyiter (s:={ s with heap:=s.heap.update it (Obj.mapFields (·.setIfInBounds 1 (rawInt ((i:Int)+1))))}) hit'.typeIs ?_)
 exact wpAny_pure (wpAny_pure ⟨_,rfl,wpAny_pure (hQ _ hit' (Heap.SameBut.update ..))⟩)
theorem js9 {it:Addr} {i:Nat} {Q:Option Value→Shared→Prop} (hh:A.handled=none) (hit:s.heap.IsKeyIter it d i ds.length ep)
  (hm:IsDs s.heap d ds ep) (hx:ds.length≤i) (hQ:∀ h',Heap.ExtBut it s.heap h'→Q none { s with heap:=h' }):wpAny (model prog w) A (pyNext (.ref it)) Q E s:=by
 refine yJ (id hit) fun o ho hc hd=>?_
 refine wpAny_bind (wpAny_attempt (wpAny_callSpecial?_slot (name:=Str.ofString "__next__") hit.typeIs F.slot_dict_keyiterator_next
  (wpAny_call_entry F.slot_dict_keyiterator_next hit.typeIs F.entry_dict_keyiterator_next ?_ (F.args_dict_keyiterator_next_1 _))))
 refine wpAny_bind (wpAny_pure ?_)
 refine wpAny_bind ?_
 refine wpAny_bind ?_
 first | refine wpAny_bind (wpAny_typeNameOfWhole_keyiter hit.typeIs (wpAny_pure ?_)) | refine wpAny_bind (wpAny_typeNameOf_keyiter hit.typeIs (wpAny_pure ?_))
 refine wpAny_bind (wpAny_fieldsOf ho hd ?_)
 have hown:Builtin.Dict_items.ownsTuple "dict_keyiterator" = false:=by decide
 show wpAny _ _ (if (Value.ref d==Value.none)=true then _ else _) _ _ s
 rw [if_neg (show ¬ ((Value.ref d==Value.none)=true) from Bool.false_ne_true)]
 refine wpAny_bind (wpAny_pure ?_)
 refine wpAny_bind (wpAny_dictEntries hm rfl ?_)
 rw [if_neg (by simp)]
 refine wpAny_bind (wpAny_pure ?_)
 refine wpAny_bind (wpAny_dictEpoch hm rfl ?_)
 rw [if_neg (by simp)]
 refine wpAny_pure ?_
 have hx':ds.toArray[i]? = none:=by rw [List.getElem?_toArray];exact List.getElem?_eq_none hx
 simp only [show ¬ ((i:Int) < 0) from by lia,if_false,Int.toNat_natCast,hx']
 refine wpAny_bind ?_
 first | refine wpAny_bind (wpAny_typeNameOfWhole_keyiter hit.typeIs (wpAny_pure ?_)) | refine wpAny_bind (wpAny_typeNameOf_keyiter hit.typeIs (wpAny_pure ?_))
 show wpAny _ _ (setField (.ref it) 0 .none >>= _) _ _ s
 refine wpAny_bind (wpAny_setField ho hd (by simp) ?_)
 refine wpAny_bind ?_
 simp only [newExc,newTuple]
 refine wpAny_bind (wpAny_newObj_type ?_ (by size_fits))
 refine wpAny_bind (m:=firstArgMember _ _) (wpAny_of_eq (a:=Value.none) (by first | rfl | (simp only [firstArgMember];rfl)) ?_)
 refine wpAny_newObj_type ?_ (by size_fits)
 rw [raiseNew]
 refine wpAny_bind (wpAny_handled ?_)
 rw [show A.in1.handled=none from hh]
 refine wpAny_bind (wpAny_pure (wpAny_throw ?_))
 refine wpAny_bind (wpAny_isInstance (T:="StopIteration") (b:=true) ⟨_,Heap.get?_push_size _ rfl,rfl⟩ isSubtype_stop ?_)
 exact wpAny_pure (hQ _ (((Heap.SameBut.update ..).extBut.push _).push _))
theorem IsDs.extBut {h h':Heap} {b:Addr} (x:IsDs h d ds ep) (hs:Heap.ExtBut b h h') (hab:d≠b):IsDs h' d ds ep:=hs d _ hab x
theorem juV (hh:A.handled=none) (I:Addr) (hne:d≠I) :
  Walks prog w A I [I,d] [I] ds.length (fun i v=>(ds[i]?).map (·.key)=some v) (fun i h=>h.IsKeyIter I d i ds.length ep∧IsDs h d ds ep) where
 sub:=fun b hb=>by simp at hb;simp [hb]
 frame:=fun _ _ _ st hk=>⟨st.1.at fun o e=>hk I (by simp) o e,hk d (by simp) _ st.2⟩
 item:=fun i s Q E hi st hQ=>by
  obtain ⟨e,hx⟩:∃ p,ds[i]? = some p:=⟨ds[i],by simp [hi]⟩
  refine jp1 st.1 st.2 hx fun h' hit' hs'=>?_
  exact hQ e.key h' s.toks (by rw [hx];rfl) ⟨hit',st.2.extBut hs'.extBut hne⟩ fun b o hb e=>hs'.extBut b o (fun h=>hb (by simp [h])) e
 done:=fun s Q E st hQ=>js9 hh st.1 st.2 (Nat.le_refl _) fun h' he'=>hQ h' s.toks fun b o hb e=>he' b o (fun h=>hb (by simp [h])) e
 self:=fun _ _ _ _ st hQ=>wpAny_pyIter_keyiter st.1 hQ
theorem jmN {acc:Array Value} (h:ItemsOf (fun i v=>(ds[i]?).map (·.key)=some v) acc ds.length):acc.toList=ds.map (·.key):=by
 refine xA h fun h1 h2=>?_
 apply List.ext_getElem?
 intro j
 rw [List.getElem?_map,Array.getElem?_toList]
 cases e:acc[j]? with
 | some v=>exact (h2 j v e).symm
 | none=>
  have:acc.size≤j:=by simpa using e
  rw [List.getElem?_eq_none (by lia)];rfl
theorem jfT {R:Result→Shared→Prop} (hh:A.handled=none) (S:Addr) (res:Value) (c₀:Nat) (hS:s.heap.get? S=some { cls:=.type "list",data:=.seq #[] c₀ }) (hm:IsDs s.heap d ds ep) (hne:d≠S) (hd:(d==sysModules)=false) (hsz:ds.length≤sizeLine)
  (hR:∀ h' c' tk,(∀ b o,b≠S→s.heap.get? b=some o→h'.get? b=some o)→h'.get? S=some { cls:=.type "list",data:=.seq (ds.map (·.key)).toArray c' }→R (.ok (.ret res)) { s with heap:=h',toks:=tk }) :
  wpAny (model prog w) A.in1 (Builtin.List.listExtendWith (.ref S) (.ref d) res)
   (fun fin s'=>match fin with | .done f=>R (.ok f) s' | .again c'=>c'.quiet=true∧codeAny (model prog w) A c' R s') (fun e s'=>R (.error e) s') s:=by
 have hSl:=Heap.lt_size hS
 have hdl:=Heap.lt_size hm
 refine wpAny_bind (wpAny_typeOf hm.typeIs ?_)
 have h1:(Builtin.List.listSameRef (.ref S) (.ref d)||Value.type "dict" == Value.type "list" || Value.type "dict" == Value.type "tuple")=false:=by
  simp [Builtin.List.listSameRef,Ne.symm hne]
 rw [if_neg (by rw [h1];exact Bool.false_ne_true)]
 refine wpAny_bind (jgC hd hm ?_)
 refine wpAny_bind (wpAny_holding ?_)
 have hm1:IsDs (s.heap.push { cls:=.type "dict_keyiterator",data:=.fields #[.ref d,.int 0 0,.int ds.length 0,.int ep 0]}) d ds ep:=Heap.get?_push_of_some _ hm
 have hit1:(s.heap.push { cls:=.type "dict_keyiterator",data:=.fields #[.ref d,.int 0 0,.int ds.length 0,.int ep 0]}).IsKeyIter s.heap.objs.size d 0 ds.length ep:=⟨_,Heap.get?_push_size _ rfl,rfl,rfl⟩
 have hS1:=Heap.get?_push_of_some { cls:=.type "dict_keyiterator",data:=.fields #[.ref d,.int 0 0,.int ds.length 0,.int ep 0]} hS
 refine wpAny_bind (wpAny_specialOf (name:=Str.ofString "__len__") (s:={ s with heap:=s.heap.push { cls:=.type "dict_keyiterator",data:=.fields #[.ref d,.int 0 0,.int ds.length 0,.int ep 0]}}) (IsDs.typeIs hm1) F.slot_dict_len.lookup ?_)
 have hsp:splitId "dict.__len__" = some ("dict","__len__"):=by decide +kernel
 dsimp only [hsp]
 refine wpAny_bind (wpAny_isInstance (b:=true) (s:={ s with heap:=s.heap.push { cls:=.type "dict_keyiterator",data:=.fields #[.ref d,.int 0 0,.int ds.length 0,.int ep 0]}}) (IsDs.typeIs hm1) (by rw [isSubtype_type];kernel_rfl) ?_)
 simp only [Bool.not_true,Bool.false_eq_true,if_false,pure_bind]
 refine wpAny_bind (wpAny_typeOf (s:={ s with heap:=s.heap.push { cls:=.type "dict_keyiterator",data:=.fields #[.ref d,.int 0 0,.int ds.length 0,.int ep 0]}}) (IsDs.typeIs hm1) ?_)
 refine wpAny_pure ?_
 rw [if_pos (by decide)]
 refine wpAny_bind (wpAny_rule ?_)
 refine wpAny_bind ?_
 refine wpAny_bind (wpAny_updateSeq hS1 rfl ?_)
 have hS2:=Heap.get?_update_self (Obj.mapSeq (·.push Value.none)) hS1 rfl
 refine wpAny_updateSeq hS2 rfl ?_
 have hS3:=Heap.get?_update_self (Obj.mapSeq (·.pop)) hS2 rfl
 have oth:∀ b o,b≠S→(s.heap.push { cls:=.type "dict_keyiterator",data:=.fields #[.ref d,.int 0 0,.int ds.length 0,.int ep 0]}).get? b=some o→
   (((s.heap.push { cls:=.type "dict_keyiterator",data:=.fields #[.ref d,.int 0 0,.int ds.length 0,.int ep 0]}).update S (Obj.mapSeq (·.push Value.none))).update S (Obj.mapSeq (·.pop))).get? b=some o:=
  fun b o hb e=>(Heap.get?_update_other _ _ (Ne.symm hb)).trans ((Heap.get?_update_other _ _ (Ne.symm hb)).trans e)
 have hIS:s.heap.objs.size≠S:=Ne.symm (Nat.ne_of_lt hSl)
 have W:=juV (prog:=prog) (w:=w) (A:=A.in1) (ds:=ds) (ep:=ep) (d:=d) hh s.heap.objs.size (Nat.ne_of_lt hdl)
 refine wpAny_pure ⟨plainId_quiet F.plain_extend_loop _,codeAny_extend_loopS W.toS hsz S (by simp only [List.mem_cons,List.not_mem_nil,or_false,not_or];exact ⟨hIS.symm,Ne.symm hne⟩) res ds.length 0 _ _ _ rfl (Nat.zero_le _)
  ⟨hit1.at fun o e=>oth _ o hIS e,oth d _ hne hm1⟩ hS3 (ItemsOf.nil _) fun s' acc' c' hmv hS' hacc=>?_⟩
 obtain ⟨hheap,hg,hdr,hos,htk⟩:=hmv
 obtain ⟨hp',g',d',t',o'⟩:=s'
 dsimp only at hheap hg hdr hos htk hS' ⊢
 subst hg
 have:=hR hp' c' t' (fun b o hb e=>?_) (by rw [hS',← jmN hacc])
 ·rw [hdr,hos];exact this
 ·refine hheap b o (fun hm'=>?_) (oth b o hb (Heap.get?_push_of_some _ e))
  simp only [List.mem_cons,List.not_mem_nil,or_false] at hm'
  rcases hm' with e' | e'
  ·exact hb e'
  ·exact Nat.ne_of_lt (Heap.lt_size e) e'
end
end Mine
end
section
open PySem PySem.W PyProof.Rows PySem.Calls
namespace Mine
theorem Rep.allocExt {c:Cx} {σ:Sig} {S:St} {h h':Heap} {a:Addr} {ao:AO} (R:Rep c σ S h) (hk:∀ b o,h.get? b=some o→h'.get? b=some o) (hn:h.get? a=none)
  (x:ORel c (σ++[(a,none)]) h' ao (a,none)):Rep c (σ++[(a,none)]) (S++[ao]) h'∧Step c σ h (σ++[(a,none)]) h':=by
 have tk:∀ a vs,IsTup h a vs→IsTup h' a vs:=(R.tups (R.ext hk).2)
 refine ⟨⟨by simp [R.len],fun k p ao' hp ha=>?_,?_,?_,fun b o e=>hk b o (R.keep b o e)⟩,⟨⟨_,rfl⟩,fun b hb=>?_,fun b o e _=>hk b o e,.ext fun b o e _=>hk b o e⟩⟩
 ·by_cases hl:k < σ.length
  ·rw [List.getElem?_append_left hl] at hp
   rw [List.getElem?_append_left (by rw [R.len];exact hl)] at ha
   have y:=R.obj k p ao' hp ha
   exact y.mono tk fun b hb=>by
    refine xEA (y.live b hb) fun ob e _=>?_
    rw [e];exact hk b ob e
  ·rw [List.getElem?_append_right (Nat.not_lt.mp hl)] at hp
   rw [List.getElem?_append_right (by rw [R.len];exact Nat.not_lt.mp hl),R.len] at ha
   cases hq:k - σ.length with
   | zero=>rw [hq] at hp ha;simp at hp ha;subst hp;subst ha;exact x
   | succ n=>rw [hq] at hp;simp at hp
 ·rw [kN,List.nodup_append]
  refine ⟨R.nodup,by simp [jZ],fun b hb b' hb'=>?_⟩
  simp [jZ] at hb'
  rw [hb']
  rintro rfl
  refine xEA (R.live hb) fun o e _=>?_
  rw [hn] at e;exact j0 e
 ·intro b hb
  rw [kN,List.mem_append] at hb
  rcases hb with hb | hb
  ·exact R.fresh b hb
  ·simp [jZ] at hb
   rw [hb]
   cases q:c.H0.get? a with
   | none=>rfl
   | some o=>rw [R.keep _ _ q] at hn;exact j0 hn.symm
 ·rw [kN,List.mem_append] at hb
  rcases hb with hb | hb
  ·exact .inl hb
  ·simp [jZ] at hb
   exact .inr (by rw [hb];exact hn)
theorem vP {σ:Sig} {a:Addr} {d:Option Addr}:(σ++[(a,d)])[σ.length]? = some (a,d):=by
 rw [List.getElem?_append_right (Nat.le_refl _),Nat.sub_self];rfl
section
variable {prog:Program} {w:World} {A:Around} {E:Value→Shared→Prop} {s:Shared} {d:Addr} {ds:List DictEntry} {ep:Nat}
theorem jwQ {R:Result→Shared→Prop} (hh:A.handled=none) (S:Addr) (hS:s.heap.get? S=some { cls:=.type "list",data:=.seq #[]}) (hm:IsDs s.heap d ds ep) (hne:d≠S) (hd:(d==sysModules)=false) (hsz:ds.length≤sizeLine)
  (hR:∀ h' c' tk,(∀ b o,b≠S→s.heap.get? b=some o→h'.get? b=some o)→h'.get? S=some { cls:=.type "list",data:=.seq (ds.map (·.key)).toArray c' }→R (.ok (.ret .none)) { s with heap:=h',toks:=tk }) :
  wpAny (model prog w) A.in1 (Builtin.«list.__init__» ⟨[.ref S,.ref d],[]⟩)
   (fun fin s'=>match fin with | .done f=>R (.ok f) s' | .again c'=>c'.quiet=true∧codeAny (model prog w) A c' R s') (fun e s'=>R (.error e) s') s:=by
 show wpAny _ A.in1 (do let old ← Builtin.List.listItems (.ref S);Builtin.List.listUpdate (.ref S) (fun _=>#[]);letGo old.toList.reverse;Builtin.List.listExtendWith (.ref S) (.ref d) .none) _ _ s
 refine wpAny_bind ?_
 unfold Builtin.List.listItems
 refine wpAny_bind (wpAny_seqItems hS rfl (wpAny_pure ?_))
 show wpAny _ A.in1 (updateSeq S (fun _=>#[]) >>= fun _=>letGo (#[]:Array Value).toList.reverse >>= fun _=>Builtin.List.listExtendWith (.ref S) (.ref d) .none) _ _ s
 refine wpAny_bind (wpAny_updateSeq hS rfl ?_)
 have hS2:=Heap.get?_update_self (Obj.mapSeq (fun _=>(#[]:Array Value))) hS rfl
 refine wpAny_bind (wpAny_letGo ?_)
 have hm2:IsDs (s.heap.update S (Obj.mapSeq (fun _=>(#[]:Array Value)))) d ds ep:=(Heap.get?_update_other _ _ (Ne.symm hne)).trans hm
 exact jfT (s:={ s with heap:=s.heap.update S (Obj.mapSeq (fun _=>(#[]:Array Value)))}) hh S .none _ hS2 hm2 hne hd hsz fun h' c' tk k1 k2=>hR h' c' tk (fun b o hb e=>k1 b o hb ((Heap.get?_update_other _ _ (Ne.symm hb)).trans e)) k2
theorem jhZ {Q:Value→Shared→Prop} (hh:A.handled=none) (hm:IsDs s.heap d ds ep) (hd:(d==sysModules)=false) (hsz:ds.length≤sizeLine)
  (hQ:∀ h' c' tk,(∀ b o',s.heap.get? b=some o'→h'.get? b=some o')→h'.get? s.heap.objs.size=some { cls:=.type "list",data:=.seq (ds.map (·.key)).toArray c' }→Q (.ref s.heap.objs.size) { s with heap:=h',toks:=tk }) :
  wpAny (model prog w) A (call (.type "list") [.ref d]) Q E s:=by
 have hne:d≠s.heap.objs.size:=fun e=>Nat.lt_irrefl _ (e▸Heap.lt_size hm)
 refine callType_codes (Q₁:=fun obj s₁=>obj = .ref s.heap.objs.size∧s₁={ s with heap:=s.heap.push { cls:=.type "list",data:=.seq #[]}}) F.called_list (F.typeCall_list_1 _) F.entry_list_init
  (code_list_new _ ⟨rfl,rfl⟩) fun obj s₁ h₁=>?_
 obtain ⟨rfl,rfl⟩:=h₁
 have hS:(s.heap.push { cls:=.type "list",data:=.seq #[]}).get? s.heap.objs.size=some { cls:=.type "list",data:=.seq #[]}:=Heap.get?_push_size _ rfl
 refine ⟨⟨_,hS,rfl⟩,F.args_list_init_2 _ _,jwQ (A:=A.in1) (R:=wants (fun r s₂=>r=Value.none∧Q (Value.ref s.heap.objs.size) s₂) E) (s:={ s with heap:=s.heap.push { cls:=.type "list",data:=.seq #[]}}) hh _ hS (Heap.get?_push_of_some _ hm) hne hd hsz fun h' c' tk k1 k2=>⟨rfl,?_⟩⟩
 exact hQ h' c' tk (fun b o e=>k1 b o (fun e'=>Nat.lt_irrefl _ (e'▸Heap.lt_size e)) (Heap.get?_push_of_some _ e)) k2
theorem jnV {Q:List Value→Shared→Prop} (hh:A.handled=none) (hm:IsDs s.heap d ds ep) (hd:(d==sysModules)=false) (hsz:ds.length≤sizeLine)
  (hQ:∀ h' tk,(∀ b o',s.heap.get? b=some o'→h'.get? b=some o')→Q (ds.map (·.key)) { s with heap:=h',toks:=tk }) :
  wpAny (model prog w) A (collect (.ref d)) Q E s:=by
 have hne:d≠s.heap.objs.size:=fun e=>Nat.lt_irrefl _ (e▸Heap.lt_size hm)
 unfold collect
 refine wpAny_bind (wpAny_runValue (codeAny_builtin F.entry_proto_collect ?_))
 rw [Around.under_plainId F.plain_proto_collect _]
 show wpAny _ A.in1 (newList [] >>= fun l=>again (.builtin "list.__iadd__" ⟨[l,.ref d],[]⟩)) _ _ s
 refine wpAny_bind (wpAny_newObj_type ?_)
 refine wpAny_pure ⟨plainId_quiet F.plain_list_iadd _,codeAny_builtin F.entry_list_iadd ?_⟩
 rw [Around.under_plainId F.plain_list_iadd _]
 have hS:(s.heap.push { cls:=.type "list",data:=.seq ([]:List Value).toArray }).get? s.heap.objs.size=some { cls:=.type "list",data:=.seq #[]}:=Heap.get?_push_size _ rfl
 show wpAny _ A.in1 (Builtin.List.listExtendWith (.ref s.heap.objs.size) (.ref d) (.ref s.heap.objs.size)) _ _ _
 refine jfT (A:=A) (R:=fun r s'=>match r with
  | .ok (.ret v)=>wpAny (model prog w) A (match v with
   | .ref a=>do
    let o ← load a
    match o.data with
    | .seq xs _=>pure xs.toList
    | _=>unsupported "internal:collect"
   | _=>unsupported "internal:collect") Q E s'
  | .ok _=>False
  | .error e=>E e s') (s:={ s with heap:=s.heap.push { cls:=.type "list",data:=.seq ([]:List Value).toArray }}) hh _ _ 0 hS (Heap.get?_push_of_some _ hm) hne hd hsz fun h' c' tk k1 k2=>?_
 show wpAny _ A (load s.heap.objs.size >>= _) _ _ _
 refine wpAny_bind (wpAny_load k2 ?_)
 have:=hQ h' tk (fun b o e=>k1 b o (fun e'=>Nat.lt_irrefl _ (e'▸Heap.lt_size e)) (Heap.get?_push_of_some _ e))
 exact wpAny_pure (by simpa using this)
theorem jhC {Q:Value→Shared→Prop} (hh:A.handled=none) (hm:IsDs s.heap d ds ep) (hd:(d==sysModules)=false) (h64:ds.length < 64) (ok:Array Value→Prop)
  (hsort:∀ (s':Shared) (a:Addr) (P:Fin→Shared→Prop) (A':Around),s'.heap.get? a=some (seqObj "list" (ds.map (·.key)).toArray 0)→(∀ out,ok out→P (.done (.ret .none)) { s' with heap:=sortedHeap s'.heap a (ds.map (·.key)) out })→
   wpAny (model prog w) A' (Builtin.«list.sort» ⟨[.ref a],[]⟩) P E s')
  (hQ:∀ h' c' tk a out,ok out→(∀ b o',s.heap.get? b=some o'→h'.get? b=some o')→s.heap.get? a=none→h'.get? a=some (seqObj "list" out c')→Q (.ref a) { s with heap:=h',toks:=tk }) :
  wpAny (model prog w) A (call (.builtin "sorted") [.ref d]) Q E s:=by
 refine Calls.call_function_entry kind_sorted plain_sorted entry_sorted (args_sorted1 _) ?_
 unfold Builtin.«sorted»
 refine wpAny_bind (m:=checkCount "sorted" 1 1 _) (wpAny_pure ?_)
 refine wpAny_bind (jnV (A:=A.in1) hh hm hd (by have:=jT;lia) fun h1 tk k1=>?_)
 refine wpAny_bind (wpAny_newList ?_ )
 have hoL:(h1.push (seqObj "list" (ds.map (·.key)).toArray 0)).get? h1.objs.size=some (seqObj "list" (ds.map (·.key)).toArray 0):=Heap.get?_push_size _ rfl
 refine wpAny_bind (wpAny_holding (wpAny_call_entry slot_list_sort ⟨_,hoL,rfl⟩ entry_list_sort (hsort _ _ _ _ hoL fun out hok=>⟨_,rfl,?_⟩) (args_list_sort _)))
 refine xE (sortedHeap_at (out:=out) hoL) fun c' hc'=>?_
 refine wpAny_pure ⟨_,rfl,hQ _ c' tk h1.objs.size out hok (fun b o e=>?_) ?_ hc'⟩
 ·have hlt:b < h1.objs.size:=Heap.lt_size (k1 b o e)
  rw [sortedHeap_old (Nat.ne_of_lt hlt) (by rw [Heap.size_push];exact Nat.lt_succ_of_lt hlt)]
  exact Heap.get?_push_of_some _ (k1 b o e)
 ·cases q:s.heap.get? h1.objs.size with
  | none=>rfl
  | some o=>exact absurd (Heap.lt_size (k1 _ _ q)) (Nat.lt_irrefl _)
end
end Mine
end
section
open PySem PySem.W PyProof.Rows PySem.Calls
namespace Mine
section
variable {prog:Program} {w:World} {A:Around} {E:Value→Shared→Prop} {s:Shared}
theorem xT {T id:String} {x:Value} {n:Nat} {Q:Value→Shared→Prop} {B:Builtin} (hT:s.TypeIs x T) (slot:Slot T "__len__" id) (entry:entryFor table id=some B) (args:argsOk id ⟨[x],[]⟩) (hfit:n < 2^62)
  (hc:∀ (Q':Fin→Shared→Prop) E',Q' (.done (.ret (.int n s.toks))) { s with toks:=s.toks+1 }→wpAny (model prog w) A.in1.in1 (B ⟨[x],[]⟩) Q' E' s)
  (h:Q (.int n (s.toks+1)) { s with toks:=s.toks+1+1 }):wpAny (model prog w) A (call (.builtin "len") [x]) Q E s:=by
 refine call_function_entry kind_len plain_len entry_len (args_len1 _) ?_
 unfold Builtin.«len»
 refine wpAny_bind (m:=oneArg "len" _) (wpAny_pure ?_)
 refine wpAny_bind (m:=callSpecial? x (Str.ofString "__len__")) (wpAny_callSpecial?_slot (name:=Str.ofString "__len__") hT slot
  (wpAny_call_entry slot hT entry (hc _ _ ⟨_,rfl,?_⟩) args))
 refine wpAny_bind (wpAny_holding (wpAny_pure ?_))
 refine wpAny_bind (wpAny_letGo ?_)
 rw [if_neg (by lia)]
 show wpAny _ _ (if ((n:Nat):Int)≥2^63 then _ else _) _ _ _
 rw [if_neg (by lia)]
 exact wpAny_bind (wpAny_mkInt (wpAny_pure ⟨_,rfl,h⟩))
end
section
variable {c:Cx} {A:Around} {n:Nat} {S S1 S2 S3:St} {σ:Sig} {h:Heap}
theorem jx4 (Y:kS c) {o:AV} {x:Value} {i:Int} (h:lenV S o=some i):Run c A S (call (.builtin "len") [x]) S (fun σ h r=>VRel c σ h (.int i) r) (fun σ h=>VRel c σ h o x):=by
 refine Run.toks fun σ s Q E R V q=>?_
 refine bO h fun n hN hn=>?_
 have hle:=(jD hn).1
 obtain rfl:=Option.some.inj (jD hn).2
 have hfit':n≤100000:=hle
 have hfit:n < 2^62:=by lia
 refine jv5 (P:=fun o n=>VRel c σ s.heap o x→(∀ a t',VRel c σ s.heap (.int n) a→Q a { s with toks:=t' })→n≤100000→n < 2^62→wpAny (model c.prog c.w) A (call (.builtin "len") [x]) Q E s) hN (fun xs V q hfit' hfit=>?_) (fun b V q hfit' hfit=>?_) (fun k xs hS V q hfit' hfit=>?_) (fun k f es ep hS V q hfit' hfit=>?_) (fun k b hS V q hfit' hfit=>?_) V q hfit' hfit
 ·refine jB V.tup' fun a vs q2q t r=>?_;obtain rfl:=q2q
  have e:=r.length
  refine len_tuple t (by simp;lia) (q _ _ ?_)
  simp only [List.size_toArray,← e]
  exact .int _ _
 ·refine xE V.bytes' fun t q1q=>?_;obtain rfl:=q1q
  refine len_bytes (by simp;lia) (q _ _ ?_)
  rw [List.size_toArray]
  exact .int _ _
 ·refine jL (R.list V hS) fun a vs m sl q4q _ ho r=>?_;obtain rfl:=q4q
  have e:=r.length
  refine call_len_list (items:=vs.toArray) ⟨_,ho,rfl,m,rfl⟩ (by simp;lia) (q _ _ ?_)
  simp only [List.size_toArray,← e]
  exact .int _ _
 ·refine kE (R.dict V hS) fun d ds q2q D=>?_;obtain rfl:=q2q
  have e:=D.rel.length
  refine xT D.typeIs F.slot_dict_len F.entry_dict_len (F.args_dict_len_1 _) (n:=ds.length) (by lia) (fun Q' E' hq=>?_) (q _ _ (by rw [← e];exact .int _ _))
  show wpAny _ _ (do retInt ((← dictSize d)+(← Builtin.Dict.pendingCount d))) _ _ s
  refine wpAny_bind (wpAny_bind (wpAny_dictEntries D.get rfl (wpAny_pure ?_)))
  refine wpAny_bind (wpAny_pendingCount_other (D.sys Y) ?_)
  refine wpAny_bind (wpAny_mkInt (wpAny_pure ?_))
  exact hq
 ·refine jB (R.bar V hS) fun a m q2q _ ho=>?_;obtain rfl:=q2q
  refine xT (T:="bytearray") ⟨_,ho,rfl⟩ nH tA (gI _) hfit (fun Q' E' hq=>?_) (q _ _ (.int _ _))
  show wpAny _ _ (do retInt (← Builtin.Bytes.payload (.ref a)).size) _ _ s
  refine wpAny_bind (yT ho (wpAny_bind (wpAny_mkInt (wpAny_pure ?_))))
  simpa using hq
theorem jsE (r:Room A n) {a b:Int} {x y:Value}:Run c A S (call (.builtin "min") [x,y]) S (fun σ h r=>VRel c σ h (.int (if b < a then b else a)) r) (fun σ h=>VRel c σ h (.int a) x∧VRel c σ h (.int b) y):=by
 intro σ s Q E R V q
 obtain ⟨V,W⟩:=V
 refine xE V.int' fun t q1q=>?_;obtain rfl:=q1q
 ·
  obtain ⟨u,rfl⟩:=W.int'
  ·
   refine min_two_ints r.hd fun h' tk hk=>?_
   refine xA (R.ext hk) fun R' T=>?_
   refine q σ h' tk _ R' T ?_
   split<;>exact .int _ _
theorem juZ (r:Room A n) {a b:Int} {x y:Value}:Run c A S (call (.builtin "max") [x,y]) S (fun σ h r=>VRel c σ h (.int (if b > a then b else a)) r) (fun σ h=>VRel c σ h (.int a) x∧VRel c σ h (.int b) y):=by
 intro σ s Q E R V q
 obtain ⟨V,W⟩:=V
 refine xE V.int' fun t q1q=>?_;obtain rfl:=q1q
 ·
  obtain ⟨u,rfl⟩:=W.int'
  ·
   refine max_two_ints r.hd fun h' tk hk=>?_
   refine xA (R.ext hk) fun R' T=>?_
   refine q σ h' tk _ R' T ?_
   split<;>exact .int _ _
theorem jxG {xs:List AV} {vs:List Value} {ns:List Int} (e:intsOf xs=some ns) (V:VRels c σ h xs vs):∃ ps:List (Int×Tok),vs=ps.map (fun p=>Value.int p.1 p.2)∧ps.map (·.1)=ns:=
 V.ind (P:=fun xs vs=>∀ ns,intsOf xs=some ns→∃ ps:List (Int×Tok),vs=ps.map (fun p=>Value.int p.1 p.2)∧ps.map (·.1)=ns) (fun ns e=>⟨[],rfl,Option.some.inj e⟩) (fun x v xs vs V _ ih ns e=>
  jcJ (P:=fun x ns=>VRel c σ h x v→∃ ps:List (Int×Tok),v::vs=ps.map (fun p=>Value.int p.1 p.2)∧ps.map (·.1)=ns) e (fun i m e V=>xE V.int' fun t q=>xEA (ih m e) fun ps e1 e2=>⟨(i,t)::ps,by rw [q,e1];rfl,congrArg (i :: ·) e2⟩) V) ns e
theorem tQ:∀ (r:List Int) (x:Int),(∀ y,y=x∨y∈r→r.foldl (fun m y=>if y < m then y else m) x≤y)∧(r.foldl (fun m y=>if y < m then y else m) x=x∨r.foldl (fun m y=>if y < m then y else m) x∈r)
 | [],x=>⟨fun y hy=>by rcases hy with rfl | hy<;>simp at *,.inl rfl⟩
 | z::r,x=>by
  rw [List.foldl_cons]
  refine xA (tQ r (if z < x then z else x)) fun i1 i2=>?_
  have hm:=i1 _ (.inl rfl)
  refine ⟨fun y hy=>?_,?_⟩
  ·rcases hy with rfl | hy
   ·exact Int.le_trans hm (by split<;>lia)
   ·rcases List.mem_cons.mp hy with rfl | hy
    ·exact Int.le_trans hm (by split<;>lia)
    ·exact i1 y (.inr hy)
  ·rcases i2 with e | e
   ·rw [e]
    split
    ·exact .inr (.head _)
    ·exact .inl rfl
   ·exact .inr (.tail _ e)
theorem juE (r:Room A n) {k:Nat} {xs:List AV} {x:Int} {rs:List Int} {v:Value} (hS:S[k]? = some (.list xs)) (hi:intsOf xs=some (x::rs)) :
  Run c A S (call (.builtin "min") [v]) S (fun σ h w=>VRel c σ h (.int (rs.foldl (fun m y=>if y < m then y else m) x)) w) (fun σ h=>VRel c σ h (.ref k) v):=by
 intro σ s Q E R V q
 refine jL (R.list V hS) fun a vs m sl q4q _ ho rv=>?_;obtain rfl:=q4q
 refine xEA (jxG hi rv) fun ps e1 e2=>?_
 have hit:(intItems ps.toArray)=vs.toArray:=by rw [e1];simp [intItems]
 have hne:0 < ps.toArray.size:=by
  induction ps using List.casesOn with
  | nil=>simp at e2
  | cons p ps=>simp
 refine min_intList (xs:=ps.toArray) r.hd ⟨_,ho,rfl,m,by rw [hit]⟩ hne fun w h' tk hw hk=>?_
 refine xA (R.ext hk) fun R' T=>?_
 refine xE (intItems_at hw) fun t q1q=>?_;obtain rfl:=q1q
 refine q σ h' tk _ R' T ?_
 obtain ⟨b1,b2⟩:=argBest_lt (numAt ps.toArray) (ps.toArray.size - 1)
 have hnum:∀ j,j < ps.length→numAt ps.toArray j∈(x::rs)∧(x::rs)[j]? = some (numAt ps.toArray j):=by
  intro j hj
  have e:numAt ps.toArray j=ps[j].1:=by simp [numAt,hj]
  rw [e,← e2]
  exact ⟨List.mem_map.mpr ⟨_,List.getElem_mem hj,rfl⟩,by simp [hj]⟩
 refine xA (tQ rs x) fun f1 f2=>?_
 have hsz:ps.toArray.size=ps.length:=by rfl
 rw [hsz] at b1 b2 hne
 have eq:numAt ps.toArray (argBest (fun i j=>decide (numAt ps.toArray i < numAt ps.toArray j)) (ps.toArray.size - 1))=rs.foldl (fun m y=>if y < m then y else m) x:=by
  rw [hsz]
  apply Int.le_antisymm
  ·have hin:rs.foldl (fun m y=>if y < m then y else m) x∈x::rs:=by
    rcases f2 with e | e
    ·rw [e];exact .head _
    ·exact .tail _ e
   refine xE (List.mem_iff_getElem?.mp hin) fun j hj=>?_
   have hl:j < ps.length:=by
    have:=(List.getElem?_eq_some_iff.mp hj).1
    rw [← e2] at this
    simpa using this
   have:=(hnum j hl).2
   rw [hj] at this
   have e:=Option.some.inj this
   rw [e]
   exact b2 j (by lia)
  ·have:=(hnum _ (Nat.lt_of_le_of_lt b1 (by lia))).1
   rcases List.mem_cons.mp this with e | e
   ·exact f1 _ (.inl e)
   ·exact f1 _ (.inr e)
 rw [eq]
 exact .int _ _
end
end Mine
end
section
open PySem PySem.W PyProof.Rows PySem.Calls
namespace Mine
theorem insBy_perm {α:Type} {lt:α→α→Bool} {x:α}:∀ {l:List α},(v8 lt x l).Perm (x::l)
 | []=>.refl _
 | y::r=>by
  unfold v8
  split
  ·exact .refl _
  ·exact (insBy_perm.cons y).trans (.swap ..)
theorem sortBy_perm {α:Type} {lt:α→α→Bool}:∀ {l:List α},(sortBy lt l).Perm l
 | []=>.refl _
 | x::r=>insBy_perm.trans (sortBy_perm.cons x)
theorem nS {α:Type} {lt:α→α→Bool} (tr:∀ a b c,lt b a=false→lt c b=false→lt c a=false) (as:∀ a b,lt a b=true→lt b a=false) {x:α}:∀ {l:List α},l.Pairwise (fun a b=>lt b a=false)→(v8 lt x l).Pairwise (fun a b=>lt b a=false)
 | [],_=>List.pairwise_singleton ..
 | y::r,h=>by
  unfold v8
  rw [List.pairwise_cons] at h
  split
  ·rename_i q
   rw [List.pairwise_cons,List.pairwise_cons]
   refine ⟨fun z hz=>?_,h⟩
   rcases List.mem_cons.mp hz with rfl | hz
   ·exact as _ _ q
   ·exact tr _ _ _ (as _ _ q) (h.1 z hz)
  ·rename_i q
   rw [List.pairwise_cons]
   refine ⟨fun z hz=>?_,nS tr as h.2⟩
   rcases List.mem_cons.mp (insBy_perm.mem_iff.mp hz) with rfl | hz
   ·simpa using q
   ·exact h.1 z hz
theorem tI {α:Type} {lt:α→α→Bool} (tr:∀ a b c,lt b a=false→lt c b=false→lt c a=false) (as:∀ a b,lt a b=true→lt b a=false):∀ {l:List α},(sortBy lt l).Pairwise (fun a b=>lt b a=false)
 | []=>List.Pairwise.nil
 | x::r=>nS tr as (tI tr as)
theorem jgN {α:Type} {lt:α→α→Bool} (tr:∀ a b c,lt b a=false→lt c b=false→lt c a=false) (as:∀ a b,lt a b=true→lt b a=false) (an:∀ a b,lt a b=false→lt b a=false→a=b)
  {l l':List α} (hp:l'.Perm l) (hs:l'.Pairwise (fun a b=>lt b a=false)):l'=sortBy lt l:=
 List.Perm.eq_of_pairwise (fun a b _ _ h1 h2=>an a b h2 h1) hs (tI tr as) (hp.trans sortBy_perm.symm)
theorem jtY {l l':List Int} (hp:l'.Perm l) (hs:l'.Pairwise (· ≤ ·)):l'=sortI l:=
 jgN (fun a b c h1 h2=>by simp at *;lia) (fun a b h=>by simp at *;lia) (fun a b h1 h2=>by simp at *;lia) hp (hs.imp fun h=>by simpa using h)
theorem jlN:∀ a b c,strLt b a=false→strLt c b=false→strLt c a=false:=by
 intro a b c h1 h2
 simp only [strLt,decide_eq_false_iff_not,List.not_lt] at *
 exact List.le_trans h1 h2
theorem js3:∀ a b,strLt a b=true→strLt b a=false:=by
 intro a b h
 simp only [strLt,decide_eq_false_iff_not,decide_eq_true_eq] at *
 exact List.lt_asymm h
theorem ju6:∀ a b,strLt a b=false→strLt b a=false→a=b:=by
 intro a b h1 h2
 simp only [strLt,decide_eq_false_iff_not,List.not_lt] at *
 have:=List.le_antisymm h2 h1
 induction a using PySem.Str.casesOn;induction b using PySem.Str.casesOn
 simp only [Str.mk.injEq]
 exact Array.toList_inj.mp this
theorem jb5:∀ (l:List Str) (p:Str),risingS p l=true→(p::l).Pairwise (fun a b=>strLt b a=false)
 | [],p,_=>List.pairwise_singleton ..
 | x::r,p,h=>by
  unfold risingS at h
  rw [Bool.and_eq_true,Bool.not_eq_true',ltCps_eq] at h
  have ih:=jb5 r x h.2
  rw [List.pairwise_cons]
  refine ⟨fun z hz=>?_,ih⟩
  rw [List.pairwise_cons] at ih
  have h1:strLt x p=false:=h.1
  rcases List.mem_cons.mp hz with rfl | hz
  ·exact h1
  ·exact jlN _ _ _ h1 (ih.1 z hz)
theorem jvQ {l l':List Str} (hp:l'.Perm l) (hs:sortedS l'=true):l'=jkV l:=by
 refine jgN jlN js3 ju6 hp ?_
 induction l' using List.casesOn with
 | nil=>exact List.Pairwise.nil
 | cons x r=>exact jb5 r x hs
section
variable {c:Cx} {A:Around} {n:Nat} {S S1 S2 S3:St} {σ:Sig} {h:Heap}
theorem ERels.keys {hash:AV→Int} {es:List (AV×AV)} {ds:List DictEntry} (r:ERels c σ h hash es ds):VRels c σ h (es.map (·.1)) (ds.map (·.key)):=by
 induction r with
 | nil=>exact .nil
 | cons a _ _ ih=>exact .cons a ih
theorem jrW {xs:List AV} {vs:List Value} {ns:List Int} (e:intsOf xs=some ns) (V:VRels c σ h xs vs):IntsAre vs ns:=
 V.ind (P:=fun xs vs=>∀ ns,intsOf xs=some ns→IntsAre vs ns) (fun ns e=>Option.some.inj e▸.nil) (fun x v xs vs V _ ih ns e=>
  jcJ (P:=fun x ns=>VRel c σ h x v→IntsAre (v::vs) ns) e (fun i m e V=>xE V.int' fun t q=>q▸.cons i t (ih m e)) V) ns e
theorem jrO {xs:List AV} {vs:List Value} {ns:List Str} (e:strsOf xs=some ns) (V:VRels c σ h xs vs):StrsAre vs ns:=
 V.ind (P:=fun xs vs=>∀ ns,strsOf xs=some ns→StrsAre vs ns) (fun ns e=>Option.some.inj e▸.nil) (fun x v xs vs V _ ih ns e=>
  jnE (P:=fun x ns=>VRel c σ h x v→StrsAre (v::vs) ns) e (fun i m e V=>xE V.str' fun t q=>q▸.cons i t (ih m e)) V) ns e
theorem jmK {vs:List Value} {ns:List Int} (r:IntsAre vs ns):VRels c σ h (ns.map .int) vs:=by
 induction r with
 | nil=>exact .nil
 | cons n t r ih=>exact .cons (.int n t) ih
theorem jmT {vs:List Value} {ns:List Str} (r:StrsAre vs ns):VRels c σ h (ns.map .str) vs:=by
 induction r with
 | nil=>exact .nil
 | cons n t r ih=>exact .cons (.str n t) ih
theorem DictAt.isDs {k:Nat} {d:Addr} {fl:Nat} {es:List (AV×AV)} {ep:Nat} {ds:List DictEntry} (D:DictAt c σ h k d fl es ep ds):IsDs h d ds ep:=D.get
theorem jqE (Y:kS c) (r:Room A n) {k fl ep:Nat} {es:List (AV×AV)} {v:Value} (hS:S[k]? = some (.dict fl es ep)) (hl:es.length≤jC) :
  Run c A S (call (.type "list") [v]) (S++[.list (es.map (·.1))]) (fun σ h w=>VRel c σ h (.ref S.length) w) (fun σ h=>VRel c σ h (.ref k) v):=by
 intro σ s Q E R V q
 refine kE (R.dict V hS) fun d ds q2q D=>?_;obtain rfl:=q2q
 refine jhZ r.hd D.isDs (D.sys Y) ?_ fun h' c' tk k1 k2=>?_
 ·have:=D.rel.length
  have:=jT
  unfold jC at hl;lia
 ·have tk:=R.tups (R.ext k1).2
  refine xA (R.allocExt (ao:=.list (es.map (·.1))) k1 (Heap.get?_none_of_le (Nat.le_refl _)) (.list _ _ _ ⟨_,c',k2,rfl,rfl,rfl⟩ (D.rel.keys.mono tk))) fun R' T=>?_
  refine q _ h' _ _ R' T ?_
  refine .ref _ _ none ?_
  rw [R.len];exact vP
theorem jkO (Y:kS c) (r:Room A n) {k fl ep:Nat} {es:List (AV×AV)} {v:Value} {ns:List Int} (hS:S[k]? = some (.dict fl es ep)) (hl:es.length≤60) (hi:intsOf (es.map (·.1))=some ns) :
  Run c A S (call (.builtin "sorted") [v]) (S++[.list ((sortI ns).map .int)]) (fun σ h w=>VRel c σ h (.ref S.length) w) (fun σ h=>VRel c σ h (.ref k) v):=by
 intro σ s Q E R V q
 refine kE (R.dict V hS) fun d ds q2q D=>?_;obtain rfl:=q2q
 have hlen:=D.rel.length
 have hI:=jrW hi D.rel.keys
 refine jhC r.hd D.isDs (D.sys Y) (by lia) (fun out=>IntsAre out.toList (sortI ns)) (fun s' a P A' ho hP=>?_) fun h' c' tk a out hok k1 k2 k3=>?_
 ·refine list_sort_tree ho hI (by simp;lia) fun out ns' h1 h2 h3=>hP out ?_
  rw [← jtY h2 h3];exact h1
 ·refine xA (R.allocExt (ao:=.list ((sortI ns).map .int)) k1 k2 (.list _ _ out.toList ⟨_,c',k3,rfl,rfl,rfl⟩ (jmK hok))) fun R' T=>?_
  refine q _ h' _ _ R' T ?_
  refine .ref _ _ none ?_
  rw [R.len];exact vP
theorem jlE (Y:kS c) (r:Room A n) {k fl ep:Nat} {es:List (AV×AV)} {v:Value} {ns:List Str} (hS:S[k]? = some (.dict fl es ep)) (hl:es.length≤60) (hi:strsOf (es.map (·.1))=some ns) :
  Run c A S (call (.builtin "sorted") [v]) (S++[.list ((jkV ns).map .str)]) (fun σ h w=>VRel c σ h (.ref S.length) w) (fun σ h=>VRel c σ h (.ref k) v):=by
 intro σ s Q E R V q
 refine kE (R.dict V hS) fun d ds q2q D=>?_;obtain rfl:=q2q
 have hlen:=D.rel.length
 have hI:=jrO hi D.rel.keys
 refine jhC r.hd D.isDs (D.sys Y) (by lia) (fun out=>StrsAre out.toList (jkV ns)) (fun s' a P A' ho hP=>?_) fun h' c' tk a out hok k1 k2 k3=>?_
 ·refine list_sort_treeK strKind_oneLt ho hI.keysOf (fun v₁ v₂ rest e=>keyKind_strs (e▸hI)) (by simp;lia) fun st h1 h2=>hP _ ?_
  refine yJ (sorted_out_str hI h1 h2) fun ss e1 e2 e3=>?_
  rw [← jvQ e2 e3];exact e1
 ·refine xA (R.allocExt (ao:=.list ((jkV ns).map .str)) k1 k2 (.list _ _ out.toList ⟨_,c',k3,rfl,rfl,rfl⟩ (jmT hok))) fun R' T=>?_
  refine q _ h' _ _ R' T ?_
  refine .ref _ _ none ?_
  rw [R.len];exact vP
end
end Mine
end
section
open PySem PySem.W PyProof.Rows PySem.Calls
namespace Mine
theorem jt2:mroOf (.type "bytearray")=pure [.type "bytearray",.type "object"]:=by rw [mroOf_type];kernel_rfl
theorem jfQ:typeLookup (.type "bytearray") "__new__" = pure (some (.builtin "bytearray.__new__")):=by rw [typeLookup_type,builtinLookup_eq_fast];kernel_rfl
theorem jxX:Bind.madeBy (.type "bytearray")=pure (some "bytearray.__new__"):=madeBy_type jt2 jfQ (by decide +kernel)
theorem jmQ:isSubtype (.type "bytearray") (.type "bytearray")=pure true:=by rw [isSubtype_type];kernel_rfl
theorem jkP (a:Value):checkTypeCall "bytearray" ⟨[a],[]⟩=pure ():=by kernel_rfl
theorem joQ (a:Value):checkBuiltinCall "bytearray.__new__" ⟨[.type "bytearray",a],[]⟩=pure ():=by kernel_rfl
theorem jhV:entryFor table "bytearray.__new__" = some Builtin.«list.__new__»:=
 entryFor_alias (id':="list.__new__") (by rw [fastTable_eq_tree];kernel_rfl) (by decide +kernel) (by decide +kernel) (by rw [fastTable_eq_tree];kernel_rfl)
theorem nU:plainId "bytearray.__new__" = true:=by decide +kernel
theorem ba_init_slot:Slot "bytearray" "__init__" "bytearray.__init__":=
 .of (owner:="bytearray") (n:="__init__") (by rw [typeLookup_type,builtinLookup_eq_fast];kernel_rfl) (by decide +kernel) (by decide +kernel) (by decide +kernel)
  (by first | exact .inl (by decide +kernel) | exact .inr (by decide +kernel)) (by rw [isSubtype_type];kernel_rfl)
theorem jfR:entryFor table "bytearray.__init__" = some Builtin.«bytearray.__init__»:=by first | exact entryFor_of_tree (by kernel_rfl) | exact entryFor_of_fast (by kernel_rfl)
theorem jiB (a b:Value):argsOk "bytearray.__init__" ⟨[a,b],[]⟩:=by
 unfold argsOk;rw [signature?_of (id:="bytearray.__init__") (n:=['_','_','t','i','n','i','_','_']) (o:=['y','a','r','r','a','e','t','y','b']) (by kernel_rfl) uH];kernel_rfl
theorem jj2:((Manifest.find? "bytearray").bind (·.mro.findSome? fun t=>(Manifest.find? t).bind fun b=>if b.noNew then some true else if b.attrs.any (·.1 == "__new__") then some false else none)).getD false=false:=by decide +kernel
theorem jwI (id:String) (v:Value):Builtin.Bytes.bindOptional "bytearray.__init__" "bytearray" ["source","encoding","errors"] [v] []=pure [some v,none,none]:=by kernel_rfl
section
variable {prog:Program} {w:World} {A:Around} {E:Value→Shared→Prop} {s:Shared}
theorem jQ {α:Type} {M:Model} {c:Bool} {a b:Sem α} {Q:α→Shared→Prop} (hc:c=false) (h:wpC M A b Q E s):wpC M A (if c=true then a else b) Q E s:=by
 subst hc;exact h
theorem jiY:("bytearray.__new__".splitOn ".__new__").headD "" = "bytearray":=by simp +decide [String.splitOn,String.splitOnAux]
theorem jkG (a:Value) {Q₁:Value→Shared→Prop} (h:Q₁ (.ref s.heap.objs.size) { s with heap:=s.heap.push { cls:=.type "bytearray",data:=.bytearray #[]}}) :
  codeAny (model prog w) A (.call (.builtin "bytearray.__new__") ⟨[.type "bytearray",a],[]⟩) (wants Q₁ E) s:=by
 refine codeAny_of_tree ?_
 refine wpAny_bind (wpAny_of_eq (joQ a) (wpAny_pure ⟨plainId_quiet nU _,codeAny_builtin_stack jhV rfl fun p st=>?_⟩))
 rw [Around.under_plainId nU _]
 have hsub:=jmQ
 have hown:=jiY
 obtain ⟨hp,g,d,tk,os⟩:=s
 simp only [hown]
 wp_walk
 exact h
theorem jcP {a:Addr} {b:Array UInt8} {n:Nat} (name:String) (id:String) (ho:s.heap.get? a=some ⟨.type "bytearray",none,.bytearray b n,#[]⟩) (hl:typeLookup (.type "bytearray") (Str.ofString name)=pure (some (.builtin id)))
  (he:id.endsWith ("." ++ name)=true) (hd:id.dropRight (name.length+1) = "bytearray") {Q:Bool→Shared→Prop} (q:Q true s):wpAny (model prog w) A (Builtin.Bytes.slotIsOwn (.ref a) name) Q E s:=by
 have hT:s.TypeIs (.ref a) "bytearray":=⟨_,ho,rfl⟩
 refine wpAny_bind (wpAny_specialOf hT hl ?_)
 show wpAny _ _ (if (!id.endsWith ("." ++ name))=true then pure false else isInstance (Value.ref a) (Value.type (id.dropRight (name.length+1)))) _ _ _
 rw [he,hd]
 exact wpAny_isInstance hT jmQ q
theorem tD {a:Addr} {b:Array UInt8} {n:Nat} (ho:s.heap.get? a=some ⟨.type "bytearray",none,.bytearray b n,#[]⟩) {Q:Bool→Shared→Prop} (q:Q false s):wpAny (model prog w) A (Builtin.Bytes.ownRelease (.ref a)) Q E s:=by
 exact wpAny_bind (jcP "__release_buffer__" "bytearray.__release_buffer__" ho jnF (by decide +kernel) (by decide +kernel) (wpAny_pure q))
theorem jr9 {id:String} {full:Bool} {a:Addr} {b:Array UInt8} {n:Nat} (ho:s.heap.get? a=some ⟨.type "bytearray",none,.bytearray b n,#[]⟩) {Q:Option (Array UInt8)→Shared→Prop} (q:Q (some b) s):wpAny (model prog w) A (Builtin.Bytes.buffer? id (.ref a) full) Q E s:=by
 have hT:s.TypeIs (.ref a) "bytearray":=⟨_,ho,rfl⟩
 unfold Builtin.Bytes.buffer?
 refine wpAny_bind (wpAny_specialOf hT jaC ?_)
 refine wpAny_bind (jcP "__buffer__" "bytearray.__buffer__" ho jaC (by decide +kernel) (by decide +kernel) ?_)
 refine wpAny_bind (wpAny_specialOf hT jaC ?_)
 refine wpAny_bind (tD ho ?_)
 exact wpAny_bind (yT ho (wpAny_pure q))
theorem ji1 {id:String} {full:Bool} {b:Array UInt8} {t:Tok}:Builtin.Bytes.buffer? id (.bytes b t) full=pure (some b):=by
 unfold Builtin.Bytes.buffer?
 rw [KBy.special_eq KBy.look_buffer,KBy.own_buffer,KBy.own_release]
 kernel_rfl
theorem jkS {a:Addr} {b:Array UInt8} {n:Nat} {f:Array UInt8→Array UInt8} (ho:s.heap.get? a=some ⟨.type "bytearray",none,.bytearray b n,#[]⟩) (hz:(f b).size≤1000) {Q:Unit→Shared→Prop} (q:Q () { s with heap:=s.heap.update a (Obj.mapBytearray f)}) :
  wpAny (model prog w) A (Builtin.Bytes.write (.ref a) f) Q E s:=by
 refine wpAny_bind (wpAny_load ho ?_)
 refine wpAny_bind (wpAny_update ho ?_)
 have h2:(s.heap.update a (Obj.mapBytearray f)).get? a=some ⟨.type "bytearray",none,.bytearray (f b) n,#[]⟩:=Heap.get?_update_self _ ho rfl
 refine wpAny_lookBehind h2 ?_ q
 show (if (f b).size > sizeLine then some "bytearray:memory" else none)=none
 rw [if_neg]
 have:=jT
 lia
theorem jw2 {a:Addr} {b:Array UInt8} {t:Tok} (ho:s.heap.get? a=some ⟨.type "bytearray",none,.bytearray #[] 0,#[]⟩) (hz:b.size≤1000) {Q:Fin→Shared→Prop}
  (q:∀ h',h'.get? a=some ⟨.type "bytearray",none,.bytearray b 0,#[]⟩→Heap.SameBut a s.heap h'→Q (.done (.ret .none)) { s with heap:=h' }) :
  wpC (model prog w) A (Builtin.«bytearray.__init__» ⟨[.ref a,.bytes b t],[]⟩) Q E s:=by
 unfold Builtin.«bytearray.__init__»
 refine j3 (tD ho ?_)
 refine jQ rfl ?_
 rw [jwI ""]
 refine j3 (wpAny_pure ?_)
 dsimp only
 refine j3 (wpAny_of_eq (a:=()) rfl ?_)
 refine j3 (wpAny_of_eq (a:=()) rfl ?_)
 refine j8 (j8 (jhP ?_))
 refine j3 (m:=Builtin.Bytes.exportsOf (Value.ref a)) (wpAny_bind (wpAny_load ho (wpAny_pure ?_)))
 refine jE ?_
 refine jQ (by decide) ?_
 refine j3 (jkS ho (Nat.zero_le _) ?_)
 have h2:(s.heap.update a (Obj.mapBytearray fun _=>#[])).get? a=some ⟨.type "bytearray",none,.bytearray #[] 0,#[]⟩:=Heap.get?_update_self _ ho rfl
 refine j3 (wpAny_of_eq (a:=none) rfl ?_)
 refine jQ rfl ?_
 refine j3 (wpAny_of_eq (a:=()) rfl ?_)
 refine j3 (wpAny_of_eq (KBy.special_eq jeM) ?_)
 refine jQ rfl ?_
 rw [ji1]
 refine j3 (wpAny_pure ?_)
 refine j3 (wpAny_rule ?_)
 refine j3 (jkS h2 hz ?_)
 exact jE (q _ (Heap.get?_update_self _ h2 rfl) (.trans (.update ..) (.update ..)))
theorem xY {M:Model} {self:Value} {T:String} {name:Str} {id:String} {args:List Value} {kw:List (Str×Value)}
  {Q:Option Value→Shared→Prop} (hT:s.TypeIs self T) (h:Slot T name id)
  (hc:wpC M A (call (.builtin id) (self::args) kw) (fun v=>Q (some v)) E s):wpC M A (callSpecial? self name args kw) Q E s:=by
 simp only [callSpecial?]
 refine j3 (wpAny_specialOf hT h.lookup ?_)
 simp only [h.bind]
 exact jG (j3 (wpAny_pure (j8 (y5 hc (fun v s' h'=>jE h') fun _ _ h'=>h'))))
theorem jl9 {b:Array UInt8} {t:Tok} (hz:b.size≤1000) {Q:Fin→Shared→Prop} (q:∀ h',h'.get? s.heap.objs.size=some ⟨.type "bytearray",none,.bytearray b 0,#[]⟩→(∀ c o,s.heap.get? c=some o→h'.get? c=some o)→Q (.done (.ret (.ref s.heap.objs.size))) { s with heap:=h' }) :
  wpC (model prog w) A (Builtin.«type.__call__» ⟨[.type "bytearray",.bytes b t],[]⟩) Q E s:=by
 unfold Builtin.«type.__call__»
 refine jQ (by decide) ?_
 refine jQ jj2 ?_
 rw [jkP,jt2,jxX]
 refine j3 (wpAny_pure (j3 (wpAny_pure (jQ rfl (j3 (wpAny_pure (j3 (wpAny_pure ?_))))))))
 refine j3 (wpAny_holding (wpAny_call (codeAny_mono (jkG (s:=s) (Q₁:=fun v s'=>v = .ref s.heap.objs.size∧s'={ s with heap:=s.heap.push { cls:=.type "bytearray",data:=.bytearray #[]}}) (E:=fun _ _=>False) _ ⟨rfl,rfl⟩) fun r s' hr=>?_)))
 induction r using Except.casesOn with
 | error e=>exact hr.elim
 | ok f=>
  induction f using PySem.Flow.casesOn with
  | ret v=>
   obtain ⟨rfl,rfl⟩:=hr
   have ho:(s.heap.push { cls:=.type "bytearray",data:=.bytearray #[]}).get? s.heap.objs.size=some ⟨.type "bytearray",none,.bytearray #[] 0,#[]⟩:=Heap.get?_push_size _ rfl
   have hT:({ s with heap:=s.heap.push { cls:=.type "bytearray",data:=.bytearray #[]}}:Shared).TypeIs (.ref s.heap.objs.size) "bytearray":=⟨_,ho,rfl⟩
   refine j3 (wpAny_isInstance hT jmQ ?_)
   refine jQ rfl ?_
   refine j8 (jG (xY hT ba_init_slot (gJ ?_)))
   refine zW (by decide +kernel) (plainId_quiet ba_init_slot.plain _) jfR (zL (ba_init_slot.check _ _ _ _ _ _ _ _ hT (jiB _ _) ?_))
   refine jw2 ho hz fun h' h1 h2=>?_
   refine jQ rfl ?_
   refine jE (q h' h1 fun c o e=>?_)
   exact h2.extBut c o (Nat.ne_of_lt (Heap.lt_size e)) (Heap.get?_push_of_some _ e)
  | _=>exact hr.elim
theorem jwJ {b:Array UInt8} {t:Tok} (hz:b.size≤1000) {Q:Value→Shared→Prop} (q:∀ h',h'.get? s.heap.objs.size=some ⟨.type "bytearray",none,.bytearray b 0,#[]⟩→(∀ c o,s.heap.get? c=some o→h'.get? c=some o)→Q (.ref s.heap.objs.size) { s with heap:=h' }) :
  wpC (model prog w) A (call (.type "bytearray") [.bytes b t]) Q E s:=by
 refine gJ (jI rfl ?_)
 exact jE ⟨Code.quiet_builtin _ (by decide +kernel),tJ (by decide +kernel) F.entry_type_call (jl9 hz q)⟩
end
section
variable {c:Cx} {A:Around} {n:Nat} {S S1 S2 S3:St} {σ:Sig} {h:Heap}
theorem jfI {b:List UInt8} {v:Value} (hl:b.length≤1000):RunC c A S (call (.type "bytearray") [v]) (S++[.ba b]) (fun σ h w=>VRel c σ h (.ref S.length) w) (fun σ h=>VRel c σ h (.bytes b) v):=by
 intro σ s Q E R V q
 refine xE V.bytes' fun t q1q=>?_;obtain rfl:=q1q
 ·
  refine jwJ (by exact hl) fun h' h1 k1=>?_
  refine xA (R.allocExt (ao:=.ba b) k1 (Heap.get?_none_of_le (Nat.le_refl _)) (.ba _ _ 0 h1)) fun R' T=>?_
  refine q _ h' s.toks _ R' T ?_
  refine .ref _ _ none ?_
  rw [R.len];exact vP
end
end Mine
end
section
open PySem PySem.W PyProof.Rows PySem.Calls
namespace Mine
section
variable {prog:Program} {w:World} {A:Around} {E:Value→Shared→Prop} {s:Shared}
theorem jhE {a:Addr} {b:Array UInt8} {n:Nat} {Q:Value→Shared→Prop} (ho:s.heap.get? a=some ⟨.type "bytearray",none,.bytearray b n,#[]⟩) (hz:b.size≤1000) (hQ:∀ t k,Q (.bytes b t) { s with toks:=k }) :
  codeAny (model prog w) A (.call (.builtin "bytes.__new__") ⟨[.type "bytes",.ref a],[]⟩) (wants Q E) s:=by
 refine codeAny_of_tree ?_
 refine wpAny_bind (wpAny_of_eq (F.bm_newCall _) (wpAny_pure ⟨plainId_quiet F.bm_plain _,codeAny_builtin F.bm_entry ?_⟩))
 rw [Around.under_plainId F.bm_plain _]
 have hT:s.TypeIs (.ref a) "bytearray":=⟨_,ho,rfl⟩
 unfold Builtin.«bytes.__new__»
 refine wpAny_bind (wpAny_of_eq (a:=true) rfl ?_)
 refine bm_if_false rfl ?_
 refine wpAny_bind (wpAny_of_eq F.bm_sub ?_)
 refine bm_if_false rfl ?_
 refine wpAny_bind (wpAny_of_eq (F.bm_bind _) ?_)
 refine wpAny_bind (wpAny_of_eq (a:=()) rfl ?_)
 refine wpAny_bind (wpAny_of_eq (a:=()) rfl ?_)
 refine bm_if_false rfl ?_
 refine wpAny_bind (wpAny_specialOf hT jl2 ?_)
 refine wpAny_bind (wpAny_bind ?_)
 refine wpAny_bind (wpAny_load ho ?_)
 refine wpAny_pure (wpAny_pure ?_)
 refine bm_if_false rfl ?_
 refine wpAny_bind (wpAny_specialOf hT jlZ ?_)
 refine bm_if_true rfl ?_
 first
  | show wpAny _ _ (Builtin.Bytes.buffer? "bytes.__new__" (.ref a) true >>= _) _ _ _
  | (refine wpAny_bind ?_;show wpAny _ _ (Builtin.Bytes.buffer? "bytes.__new__" (.ref a) true >>= _) _ _ _)
 refine wpAny_bind (jr9 ho ?_)
 refine wpAny_bind (wpAny_rule ?_)
 refine wpAny_bind (wpAny_mkBytes ?_ (by have:=jT;lia))
 first
  | exact wpAny_pure (hQ _ _)
  | exact wpAny_bind (wpAny_pure (hQ _ _))
  | exact bm_if_true rfl (wpAny_pure (hQ _ _))
  | exact wpAny_bind (wpAny_pure (wpAny_pure (hQ _ _)))
theorem jfP {a:Addr} {b:Array UInt8} {n:Nat} {Q:Value→Shared→Prop} (ho:s.heap.get? a=some ⟨.type "bytearray",none,.bytearray b n,#[]⟩) (hz:b.size≤1000) (hQ:∀ t k,Q (.bytes b t) { s with toks:=k }) :
  wpAny (model prog w) A (call (.type "bytes") [.ref a]) Q E s:=by
 refine callType_codes (Q₁:=fun obj s₁=>s₁.TypeIs obj "bytes"∧Q obj s₁) F.bm_called (F.bm_typeCall _) F.entry_object_init
  (jhE ho hz fun t k=>⟨PySem.W.typeIs_bytes _ _ _,hQ t k⟩) fun obj s₁ h₁=>?_
 exact ⟨h₁.1,F.args_object_init_2 obj _,object_init_meets F.bm_called.init.lookup F.bm_called.made (by decide) prog w A.in1 _ s₁ ⟨h₁.1,rfl,h₁.2⟩⟩
end
section
variable {c:Cx} {A:Around} {n:Nat} {S S1 S2 S3:St} {σ:Sig} {h:Heap}
theorem jqN {xs:List AV} {vs:List Value} {b:List UInt8} (e:u6 xs=some b) (V:VRels c σ h xs vs):∃ ns:List Int,IntsAre vs ns∧(∀ n∈ns,0≤n∧n < 256)∧ns.map (fun n=>UInt8.ofNat n.toNat)=b:=
 V.ind (P:=fun xs vs=>∀ b,u6 xs=some b→∃ ns:List Int,IntsAre vs ns∧(∀ n∈ns,0≤n∧n < 256)∧ns.map (fun n=>UInt8.ofNat n.toNat)=b) (fun b e=>⟨[],.nil,(fun n hn=>(List.not_mem_nil hn).elim),Option.some.inj e⟩) (fun x v xs vs V _ ih b e=>
  jiZ (P:=fun x b=>VRel c σ h x v→∃ ns:List Int,IntsAre (v::vs) ns∧(∀ n∈ns,0≤n∧n < 256)∧ns.map (fun n=>UInt8.ofNat n.toNat)=b) e (fun i m hi e V=>xE V.int' fun t q=>yJ (ih m e) fun ns h1 h2 h3=>
   ⟨i::ns,q▸.cons i t h1,fun n hn=>(List.mem_cons.mp hn).elim (fun e=>e▸hi) (h2 n),congrArg (UInt8.ofNat i.toNat :: ·) h3⟩) V) b e
theorem jnS (r:Room A n) {k:Nat} {xs:List AV} {b:List UInt8} {v:Value} (hS:S[k]? = some (.list xs)) (hl:xs.length≤1000) (ho:u6 xs=some b) :
  Run c A S (call (.type "bytes") [v]) S (fun σ h w=>VRel c σ h (.bytes b) w) (fun σ h=>VRel c σ h (.ref k) v):=by
 intro σ s Q E R V q
 refine jL (R.list V hS) fun a vs m sl q4q _ hoo rv=>?_;obtain rfl:=q4q
 refine yJ (jqN ho rv) fun ns h1 h2 h3=>?_
 have:=rv.length
 have:=jT
 refine call_bytes_ints (vs:=vs) ⟨_,hoo,rfl,m,rfl⟩ h1 h2 (by lia) r.hd fun h' t k hk=>?_
 refine xA (R.ext hk) fun R' T=>?_
 refine q σ h' k _ R' T ?_
 have e:byteArr ns=b.toArray:=by
  rw [← h3];rfl
 rw [e]
 exact .bytes _ _
theorem jn9 {k:Nat} {b:List UInt8} {v:Value} (hS:S[k]? = some (.ba b)) (hl:b.length≤1000) :
  Run c A S (call (.type "bytes") [v]) S (fun σ h w=>VRel c σ h (.bytes b) w) (fun σ h=>VRel c σ h (.ref k) v):=by
 refine Run.toks fun σ s Q E R V q=>?_
 refine jB (R.bar V hS) fun a m q2q _ ho=>?_;obtain rfl:=q2q
 exact jfP ho (by exact hl) fun t k=>q _ _ (.bytes _ _)
end
end Mine
end
section
open PySem PySem.W PyProof.Rows PySem.Calls
namespace Mine
noncomputable def jhY (x:Str):Option Value:=
 if x = "len" then some (.builtin "len") else if x = "min" then some (.builtin "min") else if x = "max" then some (.builtin "max") else if x = "sorted" then some (.builtin "sorted")
 else if x = "list" then some (.type "list") else if x = "bytes" then some (.type "bytes") else if x = "bytearray" then some (.type "bytearray") else if x = "range" then some (.type "range") else none
theorem jqC {x:Str} {v:Value} (h:jhY x=some v):bootBuiltins x=some v∧x≠"__name__"∧(x==("__debug__" : Str))=false:=by
 have k:∀ (n:Str) (w:Value),bootBuiltins n=some w∧n≠"__name__"∧(n==("__debug__" : Str))=false→x=n→some w=some v→bootBuiltins x=some v∧x≠"__name__"∧(x==("__debug__" : Str))=false:=fun n w q e h=>e▸Option.some.inj h▸q
 exact iE h (k _ _ (by decide +kernel)) fun h=>iE h (k _ _ (by decide +kernel)) fun h=>iE h (k _ _ (by decide +kernel)) fun h=>iE h (k _ _ (by decide +kernel)) fun h=>iE h (k _ _ (by decide +kernel)) fun h=>iE h (k _ _ (by decide +kernel)) fun h=>iE h (k _ _ (by decide +kernel)) fun h=>iE h (k _ _ (by decide +kernel)) j0
theorem jq8 {x:Str} {v:Value} (h:jhY x=some v):keeperOf v=pure .machine:=by
 have k:∀ (q:Prop) (w:Value),keeperOf w=pure .machine→q→some w=some v→keeperOf v=pure .machine:=fun q w e _ h=>Option.some.inj h▸e
 exact iE h (k _ _ rfl) fun h=>iE h (k _ _ rfl) fun h=>iE h (k _ _ rfl) fun h=>iE h (k _ _ rfl) fun h=>iE h (k _ _ rfl) fun h=>iE h (k _ _ rfl) fun h=>iE h (k _ _ rfl) fun h=>iE h (k _ _ rfl) j0
section
variable {c:Cx} {A:Around} {n:Nat} {S S1 S2 S3:St} {σ:Sig} {h:Heap}
theorem nD {I:AV} {vs:List Value} (r:VRels c σ h [I] vs):∃ v,vs=[v]∧VRel c σ h I v:=by
 refine jB r.cons' fun _ _ q2q a t=>?_;obtain rfl:=q2q
 ·
  obtain rfl:=t.nil'
  ·exact ⟨_,rfl,a⟩
theorem ju5 {I J:AV} {vs:List Value} (r:VRels c σ h [I,J] vs):∃ v w,vs=[v,w]∧VRel c σ h I v∧VRel c σ h J w:=by
 refine jB r.cons' fun _ _ q2q a t=>?_;obtain rfl:=q2q
 ·
  refine xEA (nD t) fun w q1q b=>?_;obtain rfl:=q1q
  exact ⟨_,_,rfl,a,b⟩
theorem RunC.one {I:AV} {vs:List Value} {f:Value} {V:Sig→Heap→Value→Prop} (h:∀ v,RunC c A S (call f [v]) S1 V (fun σ h=>VRel c σ h I v)):RunC c A S (call f vs) S1 V (fun σ h=>VRels c σ h [I] vs):=
 RunC.by (p:=∃ v,vs=[v]) (fun σ h _ i=>by refine xEA (nD i) fun v e _=>?_;exact ⟨v,e⟩) fun ⟨v,e⟩=>by
  subst e
  exact (h v).pre fun σ h _ i=>by refine xEA (nD i) fun v' e V=>?_;refine xA (List.cons.inj e) fun q0q e5q=>?_;obtain rfl:=q0q;exact V
theorem RunC.two {I J:AV} {vs:List Value} {f:Value} {V:Sig→Heap→Value→Prop} (h:∀ v w,RunC c A S (call f [v,w]) S1 V (fun σ h=>VRel c σ h I v∧VRel c σ h J w)):RunC c A S (call f vs) S1 V (fun σ h=>VRels c σ h [I,J] vs):=
 RunC.by (p:=∃ v w,vs=[v,w]) (fun σ h _ i=>by refine kE (ju5 i) fun v w e _=>?_;exact ⟨v,w,e⟩) fun ⟨v,w,e⟩=>by
  subst e
  exact (h v w).pre fun σ h _ i=>by refine kE (ju5 i) fun v' w' e V=>?_;(refine xA (List.cons.inj e) fun q0q e6q=>?_;obtain rfl:=q0q;refine xA (List.cons.inj e6q) fun q0q e7q=>?_;obtain rfl:=q0q);exact V
noncomputable def BR (c:Cx) (A:Around) (S:St) (x:Str) (args:List AV) (p:AV×St):Prop:=∃ f,jhY x=some f∧∀ vs,RunC c A S (call f vs) p.2 (fun σ h w=>VRel c σ h p.1 w) (fun σ h=>VRels c σ h args vs)
theorem br1 {x:Str} {f:Value} {o:AV} {p:AV×St} (hf:jhY x=some f) (h:∀ v,RunC c A S (call f [v]) p.2 (fun σ h w=>VRel c σ h p.1 w) (fun σ h=>VRel c σ h o v)):BR c A S x [o] p:=⟨f,hf,fun vs=>RunC.one h⟩
theorem br2 {x:Str} {f:Value} {o u:AV} {p:AV×St} (hf:jhY x=some f) (h:∀ v w,RunC c A S (call f [v,w]) p.2 (fun σ h w=>VRel c σ h p.1 w) (fun σ h=>VRel c σ h o v∧VRel c σ h u w)):BR c A S x [o,u] p:=⟨f,hf,fun vs=>RunC.two h⟩
theorem jnT (Y:kS c) (r:Room A n) {x:Str} {args:List AV} {p:AV×St} (h:jN x args S=some p):BR c A S x args p:=
 iE h (fun e h=>bO h fun o eo h=>mO h fun i hi q=>e▸nB eo▸q▸br1 rfl fun v=>Run.lift (jx4 Y hi)) fun h=>
 iE h (fun e h=>mO h fun i hi q=>e▸q▸jvI (P:=fun args i=>BR c A S "min" args (.int i,S)) hi (fun k xs x rs hS hi=>br1 rfl fun v=>Run.lift (juE r hS hi)) fun a b=>br2 rfl fun v w=>Run.lift (jsE r)) fun h=>
 iE h (fun e h=>bO h fun l el h=>bO h fun a ea h=>mO h fun b eb q=>e▸two_eq el▸yF ea▸yF eb▸q▸br2 rfl fun v w=>Run.lift (juZ r)) fun h=>
 iE h (fun e h=>bO h fun o eo h=>bO h fun k ek h=>bO h fun d ed h=>mO h fun l hl q=>e▸nB eo▸y0 ek▸q▸or_inv (jD hl).2
  (fun h=>mO h fun xs hi q=>q▸br1 rfl fun v=>Run.lift (jkO Y r (zG ed) (jD hl).1 hi)) fun h=>mO h fun xs hi q=>q▸br1 rfl fun v=>Run.lift (jlE Y r (zG ed) (jD hl).1 hi)) fun h=>
 iE h (fun e h=>bO h fun o eo h=>bO h fun k ek h=>bO h fun d ed h=>e▸nB eo▸y0 ek▸Option.some.inj (jD h).2▸br1 rfl fun v=>Run.lift (jqE Y r (zG ed) (jD h).1)) fun h=>
 iE h (fun e h=>bO h fun o eo h=>bO h fun k ek h=>mO h fun b eb q=>e▸nB eo▸y0 ek▸q▸joH (P:=fun o=>S[k]? = o→BR c A S "bytes" [.ref k] (.bytes b,S)) eb
  (fun xs hl hb hS=>br1 rfl fun v=>Run.lift (jnS r hS hl hb)) (fun hl hS=>br1 rfl fun v=>Run.lift (jn9 hS hl)) rfl) fun h=>
 iE h (fun e h=>bO h fun o eo h=>bO h fun b eb h=>e▸nB eo▸joN eb▸Option.some.inj (jD h).2▸br1 rfl fun v=>jfI (jD h).1) j0
theorem jlS (Y:kS c) (r:Room A n) {x:Str} {args:List AV} {v:AV} (h:jN x args S=some (v,S1)):∃ f,jhY x=some f∧∀ vs,RunC c A S (call f vs) S1 (fun σ h w=>VRel c σ h v w) (fun σ h=>VRels c σ h args vs):=jnT Y r h
end
section
variable {c:Cx} {A:Around} {sc:Scope} {env:Env} {ρ:Loc} {n:Nat} {S S1 S2 S3:St} {σ:Sig} {h:Heap}
noncomputable def Free (c:Cx):Prop:=∀ x v,jhY x=some v→c.mg x=none
theorem mH (B:uD c) (F:Free c) {x:Str} {p:Pos} {f:Value} (hf:jhY x=some f) (hk:jF sc x=some .globalImplicit):RunC c A S (eval (.Name x p) env) S (fun _ _ w=>w=f) (fun σ h=>LocRel c σ h sc env ρ):=by
 refine Run.lift (Run.toks fun σ s Q E R L q=>?_)
 refine xAA (jqC hf) fun b1 b2 b3=>?_
 refine Name_function_global L.kind (L.glo x hk) (loadGlobal_builtin (mg:=c.mg) (mb:=c.mb) ?_ (F x f hf) ?_ ((B.boot x b2).trans b1) (q _ s.toks rfl)) b3
 ·rw [L.glob];exact B.g.keeps R.keep
 ·rw [L.blt];exact B.b.keeps R.keep
theorem args_c {f:Value} {l:List (Bool×Sem Value)} {I:Sig→Heap→Prop} {W:Sig→Heap→List Value→Prop} (hl:l.any (·.1)=false) (h:RunC c A S (spliced l) S1 W I) :
  RunC c A S (evalArgs f true l []) S1 (fun σ h a=>a.kw=[]∧W σ h a.pos) I:=by
 intro σ s Q E R i k
 have fin:∀ σ' h' t' vs,Rep c σ' S1 h'→Step c σ s.heap σ' h'→W σ' h' vs→wpC (model c.prog c.w) A (Pure.pure (⟨vs,[]⟩:Args)) Q E { s with heap:=h',toks:=t' }:=fun σ' h' t' vs R' T v=>jE (k σ' h' t' ⟨vs,[]⟩ R' T ⟨rfl,v⟩)
 induction l using List.casesOn with
 | nil=>
  refine j8 (m:=spliced []) (h σ s _ E R i fun σ' h' t' vs R' T v=>j3 (wpAny_pure ?_))
  exact jG (j3 (wpAny_pure (j3 (wpAny_pure (fin σ' h' t' vs R' T v)))))
 | cons a l=>
  obtain ⟨b,t⟩:=a
  have hb:b=false:=by
   rw [List.any_cons,Bool.or_eq_false_iff] at hl
   exact hl.1
  subst hb
  refine j8 (m:=spliced ((false,t)::l)) (h σ s _ E R i fun σ' h' t' vs R' T v=>j3 (wpAny_pure ?_))
  exact jG (j3 (wpAny_pure (j3 (wpAny_pure (fin σ' h' t' vs R' T v)))))
noncomputable def Kept (c:Cx) (f:Value) (I:Sig→Heap→Prop):Prop:=∀ σ S h,Rep c σ S h→I σ h→∃ k,(k=Keeper.frame∨k=Keeper.machine∨k=Keeper.boundFrame)∧Looks (model c.prog c.w) h (keeperOf f) k
theorem wL {f:Value} {first:List Value} {pos:Pos} {l:List (Bool×Sem Value)} {I:Sig→Heap→Prop} {W:Sig→Heap→List Value→Prop} {V:Sig→Heap→Value→Prop} (hl:l.any (·.1)=false) (sI:Stab c I) (hk:Kept c f I)
  (ha:RunC c A S (spliced l) S1 W I) (hc:∀ vs,RunC c A S1 (call f (first++vs)) S2 V (fun σ h=>I σ h∧W σ h vs)):RunC c A S (callWith pos f first l []) S2 V I:=by
 intro σ s Q E R i k
 refine j8 (jG (args_c hl ha σ s _ E R i fun σ1 h1 t1 a R1 T1 w1=>?_))
 obtain ⟨pos,kw⟩:=a
 obtain ⟨rfl,w1⟩:=w1
 have i1:=sI _ _ _ _ _ R T1 i
 refine j8 (vI ?_)
 refine xEA (hk σ1 S1 h1 R1 i1) fun kk hk' L=>?_
 have cal:=hc pos σ1 { s with heap:=h1,toks:=t1 } Q E R1 ⟨i1,w1⟩ fun σ2 h2 t2 b R2 T2 w=>k σ2 h2 t2 b R2 (T1.trans T2) w
 have hplain:(l.any (·.1)||([]:List (Option Str×Sem Value)).any (·.1.isNone))=false:=by rw [hl];rfl
 rw [hplain]
 have tail:∀ {t:Sem Value},wpC (model c.prog c.w) A t Q E { s with heap:=h1,toks:=t1 }→wpC (model c.prog c.w) A (t >>= fun r=>holding [r] point >>= fun _=>Pure.pure r) Q E { s with heap:=h1,toks:=t1 }:=
  fun ht=>j8 (y5 ht (fun r s₂ hr=>j3 (wpAny_holding (wpAny_point (jE hr)))) fun _ _ x=>x)
 have marked (mk:Value):wpC (model c.prog c.w) A (callMarked mk f (first++pos) []) Q E { s with heap:=h1,toks:=t1 }:=by exact juL cal
 refine j3 (L.here (s:={ s with heap:=h1,toks:=t1 }) ?_)
 rcases hk' with rfl | rfl | rfl<;>(try dsimp only)<;>first | exact tail cal | (split<;>first | exact tail cal | exact tail (marked _))
end
end Mine
end
section
open PySem PySem.W PyProof.Rows PySem.Calls
namespace Mine
section
variable {c:Cx} {A:Around} {sc:Scope} {env:Env} {ρ:Loc} {n:Nat} {S S1 S2 S3:St} {σ:Sig} {h:Heap}
theorem jeV {k:Nat} {xs:List AV} {a:AV} {l:Addr} {v:Value} (hS:S[k]? = some (.list xs)) (hl:xs.length≤jC) :
  Run c A S (call (.builtin "list.append") [.ref l,v]) (S.set k (.list (xs++[a]))) (fun σ h w=>VRel c σ h .none w) (fun σ h=>VRel c σ h (.ref k) (.ref l)∧VRel c σ h a v):=by
 intro σ s Q E R V q
 refine xA V fun V W=>?_
 refine xEA (R.sig hS) fun p hp OR=>?_
 refine kE V.ref' fun _ d e13q hσ=>?_;obtain rfl:=PySem.Value.ref.inj e13q
 ·
  rw [hσ] at hp;obtain rfl:=Option.some.inj hp
  refine jB OR.list' fun _ vs e14q hpl rv=>?_;refine xA (Prod.mk.inj e14q) fun q0q q1q=>?_;obtain rfl:=q0q;obtain rfl:=q1q
  ·
   refine list_append_plainL hpl (fun h' h1 h2=>?_) ?_
   ·obtain ⟨R',T⟩:=R.change (k:=k) (d:=l) (ao:=.list (xs++[a])) hσ (.inl rfl) h2 (fun o its n e d=>by
     refine jiS hpl fun o1 n1 f1 _ _ f2=>?_
     refine jiS h1 fun o2 n2 g1 _ _ g2=>?_
     rw [f1] at e;obtain rfl:=(Option.some.inj e).symm
     replace d:=f2▸d;(refine xA (PySem.Data.seq.inj d) fun q0q e8q=>?_;obtain rfl:=q0q;obtain rfl:=e8q.symm)
     refine ⟨o2,_,n2,g1,g2,?_,fun q=>?_⟩
     ·simp
     ·simp at q) fun tk=>by
     refine .list _ _ (vs++[v]) (by simpa using h1) ?_
     have:=(rv.append (.cons W .nil)).mono (more:=[]) tk
     rwa [List.append_nil] at this
    exact q σ h' s.toks _ R' T .none
   ·have:=rv.length
    have:=jT
    unfold jC at hl
    simp
    lia
noncomputable def mval (m:Str):Option String:=if m = "append" then some "list.append" else if m = "get" then some "dict.get" else none
theorem joM {m:Str} {o:AV} {ov:Value} {pl:Sem Bool} (hm:qI m o S=true):∃ id,mval m=some id∧
  Run c A S (getMethod ov m pl) S (fun σ h r=>r=(.builtin id,[ov])∧∃ a,ov = .ref a) (fun σ h=>VRel c σ h o ov):=by
 rcases hk:(u0 o).bind (fun k=>S[k]?) with _ | ob
 ·have hm:(((u0 o).bind fun k=>S[k]?).map (hasR m)).getD false=true:=hm
  rw [hk] at hm;exact Bool.noConfusion hm
 ·have hm:(((u0 o).bind fun k=>S[k]?).map (hasR m)).getD false=true:=hm
  rw [hk] at hm
  refine bO hk fun k ek hS=>?_
  obtain rfl:=y0 ek
  induction ob using AO.casesOn with
  | list xs=>
   obtain rfl:m = "append":=eq_of_beq hm
   refine ⟨_,rfl,Run.toks fun σ s Q E R V q=>?_⟩
   refine jL (R.list V hS) fun a vs mm sl q4q _ ho rv=>?_;obtain rfl:=q4q
   exact getMethod_builtin (T:="list") ⟨_,ho,rfl⟩ F.plainAttrs_list F.slot_list_append type_list_append (fun a' e=>⟨_,by obtain rfl:=PySem.Value.ref.inj e;exact ho,rfl⟩) (q _ s.toks ⟨rfl,_,rfl⟩)
  | dict fl es ep=>
   obtain rfl:m = "get":=eq_of_beq hm
   refine ⟨_,rfl,Run.toks fun σ s Q E R V q=>?_⟩
   refine kE (R.dict V hS) fun d ds q2q D=>?_;obtain rfl:=q2q
   exact getMethod_builtin (T:="dict") ⟨_,D.get,rfl⟩ F.plainAttrs_dict F.slot_dict_get F.type_dict_get (fun a' e=>⟨_,by obtain rfl:=PySem.Value.ref.inj e;exact D.get,rfl⟩) (q _ s.toks ⟨rfl,_,rfl⟩)
  | _=>exact Bool.noConfusion hm
theorem jo9 (Y:kS c) (r:Room A n) {m:Str} {o v:AV} {args:List AV} {a:Addr} {id:String} (hm:mval m=some id) (h:uJ m o args S=some (v,S1)) (vs:List Value) :
  RunC c A S (call (.builtin id) ([.ref a]++vs)) S1 (fun σ h w=>VRel c σ h v w) (fun σ h=>VRel c σ h o (.ref a)∧VRels c σ h args vs):=by
 refine bO h fun k ek h=>bO h fun x ex h=>bO h fun ob hS h=>?_
 obtain rfl:=y0 ek
 obtain rfl:=nB ex
 have fin:∀ {S2:St} {u:AV},(∀ w,RunC c A S (call (.builtin id) [.ref a,w]) S2 (fun σ h w=>VRel c σ h u w) (fun σ h=>VRel c σ h (.ref k) (.ref a)∧VRel c σ h x w))→RunC c A S (call (.builtin id) ([.ref a]++vs)) S2 (fun σ h w=>VRel c σ h u w) (fun σ h=>VRel c σ h (.ref k) (.ref a)∧VRels c σ h [x] vs):=fun H=>
  RunC.by (p:=∃ w,vs=[w]) (fun σ h _ i=>xEA (nD i.2) fun w e _=>⟨w,e⟩) fun ⟨w,e⟩=>e▸(H w).pre fun σ h _ i=>⟨i.1,xEA (nD i.2) fun w' e V=>(List.cons.inj e).1▸V⟩
 induction ob using AO.casesOn with
 | list xs=>
  refine xA (jD h).1 fun q0q hl=>?_;obtain rfl:=q0q
  obtain ⟨rfl,rfl⟩:=Prod.mk.inj (Option.some.inj (jD h).2)
  obtain rfl:=Option.some.inj hm
  exact fin fun w=>Run.lift (jeV hS hl)
 | dict fl es ep=>
  refine xAA (jD h).1 fun q0q hf hfl=>?_;obtain rfl:=q0q
  obtain ⟨rfl,rfl⟩:=Prod.mk.inj (Option.some.inj (jD h).2)
  obtain rfl : "dict.get" = id:=Option.some.inj ((show mval "get" = some "dict.get" by decide +kernel).symm.trans hm)
  exact fin fun w=>Run.lift (get_dict Y r hS hf hfl)
 | _=>exact j0 h
end
end Mine
end
section
open PySem PySem.W PyProof.Rows PySem.Calls
namespace Mine
noncomputable def w8 (c:Cx) (A:Around) (call:Callee):Prop:=∀ x args S v S',call x args S=some (v,S')→∃ a,c.mg x=some (.ref a)∧(∃ o,c.H0.get? a=some o)∧keepIn c.K (.ref a)=true∧
 ∀ vs,RunC c A S (PySem.call (.ref a) vs) S' (fun σ h w=>VRel c σ h v w) (fun σ h=>VRels c σ h args vs)
section
variable {c:Cx} {A:Around} {sc:Scope} {env:Env} {ρ:Loc} {n:Nat} {S S1 S2 S3:St} {σ:Sig} {h:Heap} {call:Callee}
theorem plain_any {es:List Expr}:(es.map fun e=>(false,eval e env)).any (·.1)=false:=by
 rw [List.any_map];simp
theorem wN {f:Value} {I:Sig→Heap→Prop} (hf:keeperOf f=pure .machine):Kept c f I:=fun σ S h R i=>⟨.machine,.inr (.inl rfl),Looks.of_pure hf⟩
theorem kept_K (B:uD c) {a:Addr} {I:Sig→Heap→Prop} (hf:keepIn c.K (.ref a)=true):Kept c (.ref a) I:=fun σ S h R i=>keeps_K hf h (jiA B R)
theorem jbP (B:uD c) (F:Free c) (Y:kS c) (r:Room A n) {x:Str} {p pos:Pos} {es:List Expr} {vs:List AV} {v:AV} (hk:jF sc x=some .globalImplicit)
  (hp:es.all notStar=true) (h1:Evs c A sc env es ρ S vs S1) (h2:jN x vs S1=some (v,S2)):Ev c A sc env (.Call (.Name x p) es [] pos) ρ S v S2:=by
 unfold Ev
 rw [arm_eval_Call_Name',kK hp]
 refine xEA (jlS Y r h2) fun f hf hcall=>?_
 refine RunC.bind LocRel.stab (mH B F hf hk) fun g=>?_
 refine RunC.by (p:=g=f) (fun σ h _ i=>i.2) fun hg=>?_
 subst hg
 show RunC _ _ _ (callWith _ _ _ (es.map fun e=>(false,eval e env)) []) _ _ _
 refine wL plain_any (LocRel.stab.and Stab.triv) (wN (jq8 hf)) (h1.run.pre fun σ h _ i=>i.1) fun ws=>?_
 exact (hcall ws).pre fun σ h _ i=>i.2
theorem jeT (B:uD c) (C:w8 c A call) {f:Expr} {x:Str} {pos:Pos} {es:List Expr} {vs:List AV} {v:AV}
  (harm:eval (.Call f es [] pos) env=(do callWith pos (← eval f env) [] (backTo pos (starEach es env)) (backToKw pos (keywordEach [] env))))
  (hf:Ev c A sc env f ρ S (.fn x) S1) (hp:es.all notStar=true) (h1:Evs c A sc env es ρ S1 vs S2) (h2:call x vs S2=some (v,S3)):Ev c A sc env (.Call f es [] pos) ρ S v S3:=by
 unfold Ev
 rw [harm,kK hp]
 refine RunC.bind LocRel.stab hf fun g=>?_
 refine xEAAA (C x vs S2 v S3 h2) fun a hm _ hk hcall=>?_
 refine RunC.by (p:=g = .ref a) (fun σ h _ i=>by
  cases i.2 with
  | fn _ a' e _=>rw [hm] at e;obtain rfl:=PySem.Value.ref.inj (Option.some.inj e);rfl) fun e=>?_
 subst e
 show RunC _ _ _ (callWith _ _ _ (es.map fun e=>(false,eval e env)) []) _ _ _
 refine wL plain_any (LocRel.stab.and Stab.vrel) (kept_K B hk) (h1.run.pre fun σ h _ i=>i.1) fun ws=>?_
 exact (hcall ws).pre fun σ h _ i=>i.2
theorem jcH (Y:kS c) (r:Room A n) {o:Expr} {m:Str} {apos pos:Pos} {es:List Expr} {a v:AV} {vs:List AV}
  (ho:Ev c A sc env o ρ S a S1) (hn:zT o=true) (hl:(apos.endLine==pos.line)=true) (h30:es.length < 30) (hp:es.all notStar=true)
  (hm:qI m a S1=true) (h2:Evs c A sc env es ρ S1 vs S2) (h3:uJ m a vs S2=some (v,S3)):Ev c A sc env (.Call (.Attribute o m apos) es [] pos) ρ S v S3:=by
 unfold Ev
 rw [arm_eval_Call,uI hn,kK hp]
 refine RunC.bind LocRel.stab ho fun ov=>RunC.at ?_
 have hform:methodCallForm (es.length+([]:List Keyword).length) (es.map fun e=>(false,eval e env)) (backToKw pos (keywordEach [] env))=true:=by
  unfold methodCallForm
  have e1:(es.map fun e=>(false,eval e env)).all (fun x=>!x.1)=true:=by rw [List.all_map];simp
  have e2:(backToKw pos (keywordEach [] env))=[]:=rfl
  rw [e1,e2]
  simp [h30]
 have hpos:methodCallPos true o env apos pos=pure pos:=by unfold methodCallPos;simp [hl]
 unfold methodCall
 rw [hform]
 obtain ⟨id,hid,hget⟩:=joM (pl:=do return (← importBound o env).getD true) hm
 refine RunC.bind (LocRel.stab.and Stab.vrel) (RunC.holding (Run.lift (hget.pre fun σ h _ i=>i.2))) fun fr=>?_
 refine RunC.by (p:=fr=(.builtin id,[ov])∧∃ l,ov = .ref l) (fun σ h _ i=>i.2) fun ⟨e,l,el⟩=>?_
 subst e;subst el
 dsimp only
 rw [hpos]
 refine RunC.bind ((LocRel.stab.and Stab.vrel).and Stab.triv) (V:=fun _ _ p=>p=pos) (RunC.pure fun _ _ _=>rfl) fun p2=>?_
 refine RunC.by (p:=p2=pos) (fun σ h _ i=>i.2) fun hp2=>?_
 subst hp2
 show RunC _ _ _ (callWith _ _ _ (es.map fun e=>(false,eval e env)) []) _ _ _
 refine wL plain_any (((LocRel.stab.and Stab.vrel).and Stab.triv).and Stab.triv) (wN rfl) (h2.run.pre fun σ h _ i=>i.1.1.1) fun ws=>?_
 exact (jo9 Y r hid h3 ws).pre fun σ h _ i=>⟨i.1.1.1.2,i.2⟩
end
end Mine
end
section
open PySem PySem.W PyProof.Rows PySem.Calls
namespace Mine
section
variable {c:Cx} {A:Around} {sc:Scope} {env:Env} {ρ:Loc} {n:Nat} {S S1 S2 S3:St} {σ:Sig} {h:Heap}
noncomputable def PRels (c:Cx) (σ:Sig) (h:Heap) (r:List (AV×AV)) (ws:List (Value×Value)):Prop:=VRels c σ h (r.map (·.1)) (ws.map (·.1))∧VRels c σ h (r.map (·.2)) (ws.map (·.2))
theorem PRels.length {r:List (AV×AV)} {ws:List (Value×Value)} (x:PRels c σ h r ws):r.length=ws.length:=by simpa using x.1.length
theorem jbO {M:Model} {E:Value→Shared→Prop} {s:Shared} {k v:Sem Value} {rest:List (Sem Value×Sem Value)} {Q:List (Value×Value)→Shared→Prop}
  (h:wpC M A k (fun kv s₁=>wpC M A v (fun vv s₂=>wpC M A (evalPairs rest) (fun vs s₃=>Q ((kv,vv)::vs) s₃) E s₂) E s₁) E s):wpC M A (evalPairs ((k,v)::rest)) Q E s:=by
 rw [evalPairs]
 refine j8 (y5 h (fun kv s₁ h₁=>?_) fun _ _ e=>e)
 refine j8 (jG (y5 h₁ (fun vv s₂ h₂=>?_) fun _ _ e=>e))
 exact j8 (jG (y5 h₂ (fun vs s₃ h₃=>jE h₃) fun _ _ e=>e))
noncomputable def pairTrees (pos:Pos) (env:Env):List (Option Expr)→List Expr→List (Sem Value×Sem Value)
 | some k::ks,e::es=>(eval k env,do let x ← eval e env;standAt pos;pure x)::pairTrees pos env ks es
 | _,_=>[]
structure EvP (c:Cx) (A:Around) (sc:Scope) (env:Env) (pos:Pos) (ks:List (Option Expr)) (es:List Expr) (ρ:Loc) (S:St) (r:List (AV×AV)) (S':St):Prop where
 run:RunC c A S (evalPairs (pairTrees pos env ks es)) S' (fun σ h ws=>PRels c σ h r ws) (fun σ h=>LocRel c σ h sc env ρ)
 shape:(evalEachOpt ks env).zip ((evalEach es env).map fun v=>do let x ← v;standAt pos;pure x)=(pairTrees pos env ks es).map (fun p=>(some p.1,p.2))
 len:(pairTrees pos env ks es).length=es.length
 none:es=[]→ks=[]∧r=[]∧S'=S
theorem EvP.nil {pos:Pos}:EvP c A sc env pos [] [] ρ S [] S:=⟨RunC.pure fun _ _ _=>⟨.nil,.nil⟩,rfl,rfl,fun _=>⟨rfl,rfl,rfl⟩⟩
theorem EvP.cons {pos:Pos} {k e:Expr} {ks:List (Option Expr)} {es:List Expr} {kv v:AV} {r:List (AV×AV)} (r1:Ev c A sc env k ρ S kv S1) (r2:Ev c A sc env e ρ S1 v S2) (r3:EvP c A sc env pos ks es ρ S2 r S3):EvP c A sc env pos (some k::ks) (e::es) ρ S ((kv,v)::r) S3:=by
 refine ⟨fun σ s Q E R L q=>jbO (r1 σ s _ E R L fun σ1 h1 t1 w1 R1 T1 V1=>?_),?_,congrArg (· + 1) r3.len,fun h=>nomatch h⟩
 ·have L1:=LocRel.stab _ _ _ _ _ R T1 L
  refine j8 (r2 σ1 { s with heap:=h1,toks:=t1 } _ E R1 L1 fun σ2 h2 t2 w2 R2 T2 V2=>j8 (vI (jE ?_)))
  exact r3.run σ2 { s with heap:=h2,toks:=t2 } _ E R2 (LocRel.stab _ _ _ _ _ R1 T2 L1) fun σ3 h3 t3 ws R3 T3 V3=>q σ3 h3 t3 _ R3 (T1.trans (T2.trans T3)) ⟨.cons ((V1.step R1 T2).step R2 T3) V3.1,.cons (V2.step R2 T3) V3.2⟩
 ·show (some (eval k env),_)::(evalEachOpt ks env).zip _=(some (eval k env),_)::_
  rw [← r3.shape]
theorem jh9 (r:Room A n) {d:Addr} {k:Nat}:∀ {rs:List (AV×AV)} {ws:List (Value×Value)} {S:St} {fl:Nat} {es:List (AV×AV)} {ep:Nat} {ao:AO},S[k]? = some (.dict fl es ep)→kT rs fl es ep=some ao→
  Run c A S (forIn ws PUnit.unit fun (x:Value×Value) (_:PUnit)=>(do dictSet d x.1 x.2;pure (ForInStep.yield PUnit.unit):Sem (ForInStep PUnit))) (S.set k ao) (fun _ _ _=>True) (fun σ h=>VRel c σ h (.ref k) (.ref d)∧PRels c σ h rs ws)
 | [],ws,S,fl,es,ep,ao,hS,h=>by
  simp only [kT,Option.some.injEq] at h
  subst h
  have e:S.set k (.dict fl es ep)=S:=by
   apply List.ext_getElem?
   intro i
   rw [List.getElem?_set]
   split
   ·rename_i q
    subst q
    split
    ·exact hS.symm
    ·rename_i hl
     rw [List.getElem?_eq_none (by lia)]
   ·rfl
  rw [e]
  refine Run.by (p:=ws=[]) (fun σ h _ i=>by have:=i.2.length;exact List.length_eq_zero_iff.mp this.symm) fun hw=>?_
  subst hw
  rw [List.forIn_nil]
  exact Run.pure fun _ _ _=>trivial
 | (i,v)::rs,ws,S,fl,es,ep,ao,hS,h=>by
  unfold kT at h
  split at h
  ·rename_i fl' es' ep' hp
   refine Run.by (p:=∃ a b ws',ws=(a,b)::ws') (fun σ h _ j=>by
    have:=j.2.length
    induction ws using List.casesOn with
    | nil=>simp at this
    | cons x ws=>exact ⟨_,_,_,rfl⟩) fun ⟨a,b,ws',hw⟩=>?_
   subst hw
   rw [List.forIn_cons]
   intro σ s Q E R V q
   refine xAA V fun V W1 W2=>?_
   cases W1 with
   | cons a1 t1=>
    cases W2 with
    | cons a2 t2=>
     refine kE (R.dict V hS) fun d' ds e D=>?_
     obtain rfl:=PySem.Value.ref.inj e
     have hu:A.units+12 < cLine:=by have:=r.units;lia
     refine wpAny_bind (wpAny_bind (nM R D a1 a2 hu hp fun h' t' R' T'=>wpAny_pure ?_))
     have hS':(S.set k (.dict fl' es' ep'))[k]? = some (.dict fl' es' ep'):=by
      rw [List.getElem?_set_self]
      exact (List.getElem?_eq_some_iff.mp hS).1
     have ih:=jh9 r (d:=d) (k:=k) (rs:=rs) (ws:=ws') hS' h
     refine ih σ { s with heap:=h',toks:=t' } Q E R' ⟨V.step R T',t1.step R T',t2.step R T'⟩ fun σ2 h2 t2 a R2 T2 v2=>?_
     rw [List.set_set] at R2
     exact q σ2 h2 t2 a R2 (T'.trans T2) trivial
  ·exact j0 h
theorem x8 {σ:Sig} {h:Heap} {S:St} (R:Rep c σ S h):Rep c (σ++[(h.objs.size,none)]) (S++[.dict 0 [] 0]) (h.push { cls:=.type "dict",data:=.dict #[]}):=
 R.alloc (.dict 0 [] 0 _ [] (Heap.get?_push_size _ rfl) .nil List.nodup_nil (by decide))
theorem jvR (r:Room A n) {ks:List (Option Expr)} {es:List Expr} {pos:Pos} {rs:List (AV×AV)} {ao:AO} (hl:es.length≤15) (e1:EvP c A sc env pos ks es ρ (S++[.dict 0 [] 0]) rs S1)
  (hst:stays (some S.length) (S++[.dict 0 [] 0]) S1=true) (e2:kT rs 0 [] 0=some ao):Ev c A sc env (.Dict ks es pos) ρ S (.ref S.length) (S1.set S.length ao):=by
 unfold Ev
 rw [arm_eval_Dict,e1.shape]
 refine RunC.at ?_
 have hS1:S1[S.length]? = some (.dict 0 [] 0):=(of_decide_eq_true hst).trans (by rw [List.getElem?_append_right (Nat.le_refl _),Nat.sub_self];rfl)
 by_cases h0:pairTrees pos env ks es=[]
 ·have hes:es=[]:=List.length_eq_zero_iff.mp (by rw [← e1.len,h0];rfl)
  refine xAA (e1.none hes) fun q0q q1q q2q=>?_;obtain rfl:=q0q;obtain rfl:=q1q;obtain rfl:=q2q
  subst hes
  have e:(S++[AO.dict 0 [] 0]).set S.length ao=S++[.dict 0 [] 0]:=by
   rw [List.set_append_right _ _ (Nat.le_refl _),Nat.sub_self,← Option.some.inj e2];rfl
  rw [e]
  exact Run.lift fun σ s Q E R i q=>wpAny_newObj_type (q _ _ s.toks _ (x8 R) (.alloc _) (.ref _ _ none (by rw [R.len];exact vP)))
 ·rw [dictDisplay_pairs _ h0 (by rw [e1.len];lia)]
  intro σ s Q E R L q
  refine j8 (j3 (wpAny_alloc ?_))
  have T0:Step c σ s.heap _ _:=.alloc { cls:=.type "dict",data:=.dict #[]}
  refine j8 (jG ?_)
  rw [if_pos (by rw [e1.len];lia)]
  refine j8 (e1.run _ { s with heap:=s.heap.push { cls:=.type "dict",data:=.dict #[]}} _ E (x8 R) (LocRel.stab _ _ _ _ _ R T0 L) fun σ1 h1' t1 ws R1 T1 V1=>?_)
  have V0:VRel c (σ++[(s.heap.objs.size,none)]) (s.heap.push { cls:=.type "dict",data:=.dict #[]}) (.ref S.length) (.ref s.heap.objs.size):=.ref _ _ none (by rw [R.len];exact vP)
  have V0:=V0.step (x8 R) T1
  exact jG (zL (wpAny_bind (jh9 r hS1 e2 σ1 { s with heap:=h1',toks:=t1 } _ E R1 ⟨V0,V1⟩ fun σ2 h2' t2 _ R2 T2 _=>wpAny_pure (jE (jE (q σ2 h2' t2 _ R2 (T0.trans (T1.trans T2)) (V0.step R1 T2)))))))
end
end Mine
end
section
open PySem PySem.W PyProof.Rows PySem.Calls
namespace Mine
section
variable {c:Cx} {A:Around} {sc:Scope} {env:Env} {ρ:Loc} {n:Nat} {S S1 S2 S3:St} {σ σ1 σ2:Sig} {h h1 h2:Heap}
structure StepX (c:Cx) (X:List Addr) (σ:Sig) (h:Heap) (σ':Sig) (h':Heap):Prop where
 grow:∃ more,σ'=σ++more
 new:∀ a∈jZ σ',a∈jZ σ∨h.get? a=none
 ext:∀ b o,h.get? b=some o→b ∉ jZ σ→b ∉ X→h'.get? b=some o
 live:∀ b∈X,∀ o,h.get? b=some o→∃ o',h'.get? b=some o'
 tup:∀ a vs,IsTup h a vs→IsTup h' a vs
 sq:SeqsOk h h' X
theorem StepX.refl {X:List Addr}:StepX c X σ h σ h:=⟨⟨[],by simp⟩,fun _ h=>.inl h,fun _ _ e _ _=>e,fun _ _ o e=>⟨o,e⟩,fun _ _ x=>x,.ext fun _ _ e _=>e⟩
theorem Step.toX {X:List Addr} (R:Rep c σ S h) (T:Step c σ h σ1 h1) (hX:∀ b∈X,b ∉ jZ σ):StepX c X σ h σ1 h1:=
 ⟨T.grow,T.new,fun b o e hm _=>T.ext b o e hm,fun b hb o e=>⟨o,T.ext b o e (hX b hb)⟩,R.tups T,fun b o its n e d _=>T.sq b o its n e d List.not_mem_nil⟩
theorem StepX.alive {X:List Addr} (T:StepX c X σ h σ1 h1) (hl:∀ b∈X,∃ o,h.get? b=some o):∀ b∈X,∃ o,h1.get? b=some o:=by
 intro b hb
 refine xE (hl b hb) fun o e=>?_
 exact T.live b hb o e
theorem StepX.trans {X:List Addr} (x:StepX c X σ h σ1 h1) (y:StepX c X σ1 h1 σ2 h2) (hl:∀ b∈X,∃ o,h.get? b=some o):StepX c X σ h σ2 h2:=by
 refine xE x.grow fun m q1q=>?_;obtain rfl:=q1q
 refine xE y.grow fun n q1q=>?_;obtain rfl:=q1q
 refine ⟨⟨m++n,by simp⟩,fun a ha=>?_,fun b o e hb hx=>?_,fun b hb o e=>?_,fun a vs t=>y.tup a vs (x.tup a vs t),x.sq.trans y.sq⟩
 ·rcases y.new a ha with q | q
  ·exact x.new a q
  ·by_cases hm:a∈jZ σ
   ·exact .inl hm
   ·right
    cases e:h.get? a with
    | none=>rfl
    | some o=>
     by_cases hx:a∈X
     ·refine xE (x.live a hx o e) fun o' e'=>?_
      rw [q] at e';exact j0 e'
     ·have:=x.ext a o e hm hx
      rw [q] at this;exact j0 this
 ·refine y.ext b o (x.ext b o e hb hx) (fun q=>?_) hx
  rcases x.new b q with q | q
  ·exact hb q
  ·rw [e] at q;exact j0 q.symm
 ·refine xE (x.live b hb o e) fun o' e'=>?_
  exact y.live b hb o' e'
theorem StepX.but {X:List Addr} {I:Addr} (x:StepX c X σ h σ1 h1) (hk:Heap.ExtBut I h1 h2) (hI:h.get? I=none):StepX c X σ h σ1 h2:=by
 have ne:∀ b o,h.get? b=some o→b≠I:=fun b o e q=>by rw [q,hI] at e;exact j0 e
 refine ⟨x.grow,x.new,fun b o e hm hx=>hk b o (ne b o e) (x.ext b o e hm hx),fun b hb o e=>?_,fun a vs t=>?_,x.sq.then fun b o o1 e1=>o.elim fun o e=>hk b o1 (ne b o e) e1⟩
 ·refine xE (x.live b hb o e) fun o' e'=>?_
  exact ⟨o',hk b o' (ne b o e) e'⟩
 ·refine xEA (id t) fun o e r=>?_
  exact (x.tup a vs t).extBut hk (ne a o e)
theorem VRel.stepX {X:List Addr} {x:AV} {v:Value} (V:VRel c σ h x v) (T:StepX c X σ h σ1 h1):VRel c σ1 h1 x v:=by
 refine xE T.grow fun m q1q=>?_;obtain rfl:=q1q
 exact V.mono T.tup
theorem VRels.stepX {X:List Addr} {x:List AV} {v:List Value} (V:VRels c σ h x v) (T:StepX c X σ h σ1 h1):VRels c σ1 h1 x v:=by
 refine xE T.grow fun m q1q=>?_;obtain rfl:=q1q
 exact V.mono T.tup
theorem ORel?.stepX {X:List Addr} {x:Option AV} {v:Option Value} (V:ORel? c σ h x v) (T:StepX c X σ h σ1 h1):ORel? c σ1 h1 x v:=by
 induction V using ORel?.casesOn with
 | none=>exact .none
 | some V=>exact .some (V.stepX T)
theorem Rep.but {I:Addr} (R:Rep c σ S h) (hk:Heap.ExtBut I h h1) (hm:I ∉ jZ σ) (h0:c.H0.get? I=none) (nt:∀ vs,¬ IsTup h I vs):Rep c σ S h1:=by
 have tk:∀ a vs,IsTup h a vs→IsTup h1 a vs:=fun a vs t=>t.extBut hk fun e=>nt vs (e▸t)
 refine ⟨R.len,fun k p ao hp ho=>?_,R.nodup,R.fresh,fun b o e=>hk b o (fun q=>?_) (R.keep b o e)⟩
 ·have x:=R.obj k p ao hp ho
  have:=x.mono (more:=[]) tk fun a ha=>by
   refine xEA (x.live a ha) fun ob e _=>?_
   have hma:a∈jZ σ:=by
    refine xA (jd1 hp) fun m1 m2=>?_
    rcases ha with rfl | q
    ·exact m1
    ·exact m2 a q
   rw [e];exact hk a ob (fun q=>hm (q▸hma)) e
  rwa [List.append_nil] at this
 ·subst q;rw [h0] at e;exact j0 e
theorem LocRel.mv (L:LocRel c σ h sc env ρ) {more:Sig} (new:∀ a∈jZ (σ++more),a∈jZ σ∨h.get? a=none) (tup:∀ a vs,IsTup h a vs→IsTup h1 a vs) (keep:∀ a∈fa env,∀ o,h.get? a=some o→h1.get? a=some o):LocRel c (σ++more) h1 sc env ρ:=by
 refine xEA L.ns fun m hn hm=>?_
 have ov:∀ {x:Option AV} {v:Option Value},ORel? c σ h x v→ORel? c (σ++more) h1 x v:=fun V=>by
  induction V using ORel?.casesOn with
  | none=>exact .none
  | some V=>exact .some (V.mono tup)
 refine ⟨L.kind,L.glob,L.blt,L.loc,L.cel,L.glo,⟨m,?_,fun y hy=>ov (hm y hy)⟩,fun y hy=>?_,fun a ha=>?_,fun a ha q=>?_,L.above,L.nd,L.own,L.dot⟩
 ·refine nY hn fun o es ep e r=>?_
  exact ⟨o,es,ep,keep _ (.head _) _ e,r⟩
 ·refine jB (L.cell y hy) fun a v hl q3q hv=>?_;obtain ⟨o,e,d⟩:=q3q
  refine ⟨a,v,hl,⟨o,keep a ?_ o e,d⟩,ov hv⟩
  exact .tail _ (List.mem_map.mpr ⟨(y,a),mem_of_lookup hl,rfl⟩)
 ·refine xE (L.live a ha) fun o e=>?_
  exact ⟨o,keep a ha o e⟩
 ·rcases new a q with q | q
  ·exact L.apart a ha q
  ·refine xE (L.live a ha) fun o e=>?_
   replace q:=e▸q;exact j0 q.symm
theorem LocRel.but {I:Addr} (L:LocRel c σ h sc env ρ) (hk:Heap.ExtBut I h h1) (hI:I ∉ fa env) (nt:∀ vs,¬ IsTup h I vs):LocRel c σ h1 sc env ρ:=by
 have:=L.mv (more:=[]) (h1:=h1) (fun a ha=>.inl (by simpa using ha)) (fun a vs t=>t.extBut hk fun e=>nt vs (e▸t)) fun a ha o e=>hk a o (fun q=>hI (q▸ha)) e
 rwa [List.append_nil] at this
end
section
variable {c:Cx} {A:Around} {sc:Scope} {env:Env} {ρ ρ1 ρ2:Loc} {n:Nat} {S S1 S2 S3:St} {σ σ1 σ2:Sig} {h h1 h2:Heap}
theorem jV {α β:Type} [DecidableEq α] {k x:α} {v:β}:∀ {l:List (α×β)},j6 x (jA k v l)=if k=x then some v else j6 x l
 | []=>by rfl
 | (y,w)::r=>by
  unfold jA
  by_cases q:y=k
  ·rw [if_pos q]
   by_cases z:k=x
   ·simp [j6,q,z]
   ·simp only [j6,if_neg z]
    rw [if_neg (by rw [q];exact z),if_neg (by rw [q];exact z)]
  ·rw [if_neg q]
   unfold j6
   rw [jV]
   by_cases z:y=x
   ·rw [if_pos z,if_pos z,if_neg (fun e=>q (z.trans e.symm))]
   ·rw [if_neg z,if_neg z]
noncomputable def ownName (sc:Scope) (x:Str):Bool:=(jF sc x==some .local||jF sc x==some .cell)&&x != (".0" : Str)
theorem zH {a:Addr} {m:Str→Option Value} (hn:h.Ns a m):∀ vs,¬ IsTup h a vs:=by
 rintro vs ⟨o,e,_,n,d⟩
 refine vQ hn fun o' es ep e' d' _=>?_
 rw [e] at e';obtain rfl:=Option.some.inj e'
 rw [d] at d';exact PySem.Data.noConfusion d'
theorem jjM {a:Addr} {v:Option Value} (hn:h.IsCell a v):∀ vs,¬ IsTup h a vs:=by
 rintro vs ⟨o,e,_,n,d⟩
 refine xEA hn fun o' e' d'=>?_
 rw [e] at e';obtain rfl:=Option.some.inj e'
 rw [d] at d';exact PySem.Data.noConfusion d'
noncomputable def RunS (c:Cx) (A:Around) (sc:Scope) (env:Env) {α:Type} (t:Sem α) (ρ:Loc) (S:St) (ρ':Loc) (S':St) (V:Sig→Heap→α→Prop) (I:Sig→Heap→Prop):Prop:=
 ∀ (σ:Sig) (s:Shared) (Q:α→Shared→Prop) (E:Value→Shared→Prop),Rep c σ S s.heap→LocRel c σ s.heap sc env ρ→I σ s.heap→
  (∀ σ' h' t' a,Rep c σ' S' h'→StepX c (fa env) σ s.heap σ' h'→LocRel c σ' h' sc env ρ'→V σ' h' a→Q a { s with heap:=h',toks:=t' })→wpC (model c.prog c.w) A t Q E s
noncomputable def StabX (c:Cx) (X:List Addr) (I:Sig→Heap→Prop):Prop:=∀ σ h σ' h',StepX c X σ h σ' h'→I σ h→I σ' h'
theorem StabX.vrel {X:List Addr} {a:AV} {v:Value}:StabX c X (fun σ h=>VRel c σ h a v):=fun _ _ _ _ T V=>V.stepX T
theorem StabX.vrels {X:List Addr} {a:List AV} {v:List Value}:StabX c X (fun σ h=>VRels c σ h a v):=fun _ _ _ _ T V=>V.stepX T
theorem StabX.triv {X:List Addr} {p:Prop}:StabX c X (fun _ _=>p):=fun _ _ _ _ _ x=>x
theorem StabX.and {X:List Addr} {I J:Sig→Heap→Prop} (a:StabX c X I) (b:StabX c X J):StabX c X (fun σ h=>I σ h∧J σ h):=fun _ _ _ _ T x=>⟨a _ _ _ _ T x.1,b _ _ _ _ T x.2⟩
section
variable {α β:Type} {I J:Sig→Heap→Prop} {V:Sig→Heap→α→Prop} {W:Sig→Heap→β→Prop}
theorem RunS.bind {t:Sem α} {f:α→Sem β} (sI:StabX c (fa env) I) (r1:RunS c A sc env t ρ S ρ1 S1 V I) (r2:∀ a,RunS c A sc env (f a) ρ1 S1 ρ2 S2 W (fun σ h=>I σ h∧V σ h a)):RunS c A sc env (t >>= f) ρ S ρ2 S2 W I:=
 fun σ s Q E R L i k=>j8 (r1 σ s _ E R L i fun σ1 h1 t1 a R1 T1 L1 v1=>r2 a σ1 { s with heap:=h1,toks:=t1 } Q E R1 L1 ⟨sI _ _ _ _ T1 i,v1⟩ fun σ2 h2 t2 b R2 T2 L2 w=>k σ2 h2 t2 b R2 (T1.trans T2 L.live) L2 w)
theorem RunS.pure {a:α} (hv:∀ σ h,I σ h→V σ h a):RunS c A sc env (Pure.pure a) ρ S ρ S V I:=
 fun σ s Q E R L i k=>jE (k σ s.heap s.toks a R .refl L (hv _ _ i))
theorem RunS.pre {t:Sem α} (r:RunS c A sc env t ρ S ρ1 S1 V J) (i:∀ σ h,Rep c σ S h→I σ h→J σ h):RunS c A sc env t ρ S ρ1 S1 V I:=fun σ s Q E R L x k=>r σ s Q E R L (i _ _ R x) k
theorem RunS.at {p:Pos} {f:Unit→Sem β} (r:RunS c A sc env (f ()) ρ S ρ1 S1 W I):RunS c A sc env (PySem.standAt p >>= f) ρ S ρ1 S1 W I:=fun σ s Q E R L i k=>j8 (vI (r σ s Q E R L i k))
theorem RunS.holding {vs:List Value} {t:Sem α} (r:RunS c A sc env t ρ S ρ1 S1 V I):RunS c A sc env (PySem.holding vs t) ρ S ρ1 S1 V I:=fun σ s Q E R L i k=>jG (r σ s Q E R L i k)
theorem RunS.by {t:Sem α} {p:Prop} (hI:∀ σ h,Rep c σ S h→I σ h→p) (r:p→RunS c A sc env t ρ S ρ1 S1 V I):RunS c A sc env t ρ S ρ1 S1 V I:=fun σ s Q E R L i k=>r (hI _ _ R i) σ s Q E R L i k
theorem RunC.s {t:Sem α} (r:RunC c A S t S1 V (fun σ h=>LocRel c σ h sc env ρ∧I σ h)):RunS c A sc env t ρ S ρ S1 V I:=
 fun σ s Q E R L i k=>r σ s Q E R ⟨L,i⟩ fun σ' h' t' a R' T v=>k σ' h' t' a R' (T.toX R L.apart) (LocRel.stab _ _ _ _ _ R T L) v
end
theorem jdZ {a:Addr} (R:Rep c σ S h) (L:LocRel c σ h sc env ρ) (ha:a∈fa env) (hs:Heap.SameBut a h h1) (nt:∀ vs,¬ IsTup h a vs) (hl:∃ o,h1.get? a=some o):Rep c σ S h1∧StepX c (fa env) σ h σ h1:=by
 have R1:=R.but hs.extBut (L.apart a ha) (L.above a ha) nt
 refine ⟨R1,⟨⟨[],by simp⟩,fun _ h=>.inl h,fun b o e _ hx=>hs.extBut b o (fun q=>hx (q▸ha)) e,fun b hb o e=>?_,fun b vs t=>t.extBut hs.extBut fun e=>nt vs (e▸t),.ext fun b o e hx=>hs.extBut b o (fun q=>hx (q▸ha)) e⟩⟩
 by_cases q:b=a
 ·subst q;exact hl
 ·exact ⟨o,hs.extBut b o q e⟩
theorem x6:∀ {l:List (Str×Addr)},(l.map (·.2)).Nodup→∀ {x y:Str} {a:Addr},l.lookup x=some a→l.lookup y=some a→x=y
 | [],_,_,_,_,h,_=>by exact j0 h
 | (k,b)::r,nd,x,y,a,hx,hy=>by
  rw [List.map_cons,List.nodup_cons] at nd
  have mem:∀ z,r.lookup z=some a→a∈r.map (·.2):=fun z hz=>List.mem_map.mpr ⟨(z,a),mem_of_lookup hz,rfl⟩
  rw [List.lookup_cons] at hx hy
  by_cases e1:x=k
  ·by_cases e2:y=k
   ·rw [e1,e2]
   ·have:(y==k)=false:=by simpa using e2
    rw [this] at hy
    have t:(x==k)=true:=by simpa using e1
    rw [t] at hx
    obtain rfl:=Option.some.inj hx
    exact (nd.1 (mem y hy)).elim
  ·have t1:(x==k)=false:=by simpa using e1
   rw [t1] at hx
   by_cases e2:y=k
   ·have t:(y==k)=true:=by simpa using e2
    rw [t] at hy
    obtain rfl:=Option.some.inj hy
    exact (nd.1 (mem x hx)).elim
   ·have t:(y==k)=false:=by simpa using e2
    rw [t] at hy
    exact x6 nd.2 hx hy
theorem jmX {x:Str} {a:AV} {v:Value} (hx:ownName sc x=true) :
  RunS c A sc env (storeName env x v) ρ S (jA x a ρ) S (fun _ _ _=>True) (fun σ h=>VRel c σ h a v):=by
 intro σ s Q E R L V q
 unfold ownName at hx
 rw [Bool.and_eq_true,Bool.or_eq_true,beq_iff_eq,beq_iff_eq,bne_iff_ne] at hx
 have dot':j6 (".0" : Str) (jA x a ρ)=none:=by rw [jV,if_neg hx.2];exact L.dot
 have hx:=hx.1
 by_cases hloc:jF sc x=some .local
 ·refine xEA L.ns fun m hn hm=>?_
  have hp:(env.scope.kind == .class||(env.scope.kind == .module&&env.locals != env.globals))=false:=by rw [L.kind];rfl
  refine zL (wpAny_storeName_local (L.loc x hloc) hn (fun h' hn' hs'=>?_) hp)
  refine xA (jdZ R L (.head _) hs' (zH hn) (by obtain ⟨o,_,_,e,_⟩:=hn';exact ⟨o,e⟩)) fun R' T'=>?_
  have V':=V.stepX T'
  have tup:=T'.tup
  refine q σ h' _ () R' T' ⟨L.kind,L.glob,L.blt,L.loc,L.cel,L.glo,⟨_,hn',fun y hy=>?_⟩,fun y hy=>?_,T'.alive L.live,L.apart,L.above,L.nd,L.own,dot'⟩ trivial
  ·rw [jV]
   by_cases e:x=y
   ·subst e
    rw [if_pos rfl,if_pos rfl]
    exact .some V'
   ·rw [if_neg e,if_neg (fun q=>e q.symm)]
    exact (hm y hy).stepX T'
  ·have hxy:x≠y:=by
    rintro rfl
    rcases hy with hy | hy<;>rw [hloc] at hy<;>cases hy
   obtain ⟨b,w,hl,hcell,hv⟩:=L.cell y hy
   rw [jV,if_neg hxy]
   refine ⟨b,w,hl,hcell.sameBut hs' fun e=>?_,hv.stepX T'⟩
   have hb:b∈env.cells.map (·.2):=List.mem_map.mpr ⟨(y,b),mem_of_lookup hl,rfl⟩
   have:=L.nd
   unfold fa at this
   rw [List.nodup_cons] at this
   exact this.1 (e▸hb)
 ·have hcel:jF sc x=some .cell:=hx.resolve_left hloc
  obtain ⟨b,w,hl,hcell,hv⟩:=L.cell x (.inl hcel)
  have hb:b∈env.cells.map (·.2):=List.mem_map.mpr ⟨(x,b),mem_of_lookup hl,rfl⟩
  refine zL (wpAny_storeName_cell L.kind (L.own x hcel) hl hcell fun h' hn' hs'=>?_)
  obtain ⟨R',T'⟩:=jdZ R L (.tail _ hb) hs' (jjM hcell) (by obtain ⟨o,e,_⟩:=hn';exact ⟨o,e⟩)
  obtain ⟨m,hn,hm⟩:=L.ns
  have nd:=L.nd
  unfold fa at nd
  rw [List.nodup_cons] at nd
  have hne:env.locals≠b:=fun e=>nd.1 (e▸hb)
  refine q σ h' s.toks () R' T' ⟨L.kind,L.glob,L.blt,L.loc,L.cel,L.glo,⟨m,hn.sameBut hs' hne,fun y hy=>?_⟩,fun y hy=>?_,T'.alive L.live,L.apart,L.above,L.nd,L.own,dot'⟩ trivial
  ·have hxy:x≠y:=by
    rintro rfl
    exact hloc hy
   rw [jV,if_neg hxy]
   exact (hm y hy).stepX T'
  ·by_cases e:x=y
   ·subst e
    rw [jV,if_pos rfl]
    exact ⟨b,_,hl,hn',.some (V.stepX T')⟩
   ·obtain ⟨b2,w2,hl2,hcell2,hv2⟩:=L.cell y hy
    rw [jV,if_neg e]
    refine ⟨b2,w2,hl2,hcell2.sameBut hs' fun q=>?_,hv2.stepX T'⟩
    subst q
    exact e (x6 nd.2 hl hl2)
end
end Mine
end
section
open PySem PySem.W PyProof.Rows PySem.Calls
namespace Mine
noncomputable def targetNames:List Expr→Option (List Str)
 | []=>some []
 | t::r=>match t with
  | .Name x _=>(targetNames r).map (x :: ·)
  | _=>none
noncomputable def putAll:List Str→List AV→Loc→Loc
 | x::xs,v::vs,ρ=>putAll xs vs (jA x v ρ)
 | _,_,ρ=>ρ
inductive Binds (t:Expr) (v:AV) (ρ:Loc) (S:St):Loc→Prop
 | name (x:Str) (p:Pos) (e:t = .Name x p):Binds t v ρ S (jA x v ρ)
 | tuple (ts:List Expr) (k:Nat) (p:Pos) (xs:List Str) (vs:List AV) (e:t = .Tuple ts k p) (hx:targetNames ts=some xs) (hs:yE S v=some vs) (hl:xs.length=vs.length):Binds t v ρ S (putAll xs vs ρ)
section
variable {c:Cx} {A:Around} {sc:Scope} {env:Env} {ρ ρ1 ρ2:Loc} {n:Nat} {S S1 S2 S3:St} {σ σ1 σ2:Sig} {h h1 h2:Heap}
theorem tX {I:Addr} (hk:Heap.ExtBut I h h1) (hI:h.get? I=none):∀ b o,h.get? b=some o→h1.get? b=some o:=fun b o e=>hk b o (fun q=>by rw [q,hI] at e;exact j0 e) e
theorem jd7 (r:Room A n) {a:AV} {v:Value} {vs:List AV} (hs:yE S a=some vs):Run c A S (unpackItems v vs.length none) S (fun σ h ws=>VRels c σ h vs ws) (fun σ h=>VRel c σ h a v):=by
 intro σ s Q E R V q
 refine jiM (P:=fun a=>VRel c σ s.heap a v→wpAny (model c.prog c.w) A (unpackItems v vs.length none) Q E s) hs (fun V=>?_) (fun k hS V=>?_) V
 ·refine jB V.tup' fun t ws q2q ht rv=>?_;obtain rfl:=q2q
  ·
   have e:=rv.length
   rw [e]
   have:=unpackItems_tuple (prog:=c.prog) (w:=c.w) (A:=A) (E:=E) (s:=s) (items:=ws.toArray) (Q:=Q) r.hd ht fun h' hk=>by
    refine xA (R.ext (tX hk (Heap.get?_none_of_le (Nat.le_refl _)))) fun R' T=>?_
    exact q σ h' s.toks _ R' T (by exact rv.step R T)
   exact this
 ·refine jL (R.list V hS) fun l ws m sl q4q _ ho rv=>?_;obtain rfl:=q4q
  have e:=rv.length
  rw [e]
  have:=kun_itemsOf (prog:=c.prog) (w:=c.w) (A:=A) (E:=E) (s:=s) (l:=l) (items:=ws.toArray) (Q:=Q) r.hd ⟨_,ho,rfl,m,rfl⟩ fun h' hk=>by
   refine xA (R.ext (tX hk (Heap.get?_none_of_le (Nat.le_refl _)))) fun R' T=>?_
   exact q σ h' s.toks _ R' T (by simpa using rv.step R T)
  simpa using this
theorem jh8 {x:Str} {a:AV} {v:Value} (hx:ownName sc x=true):RunS c A sc env (bindName env x v) ρ S (jA x a ρ) S (fun _ _ _=>True) (fun σ h=>VRel c σ h a v):=by
 intro σ s Q E R L V q
 refine j3 (wpAny_holding (wpAny_point ?_))
 exact j8 (jmX hx σ s _ E R L V fun σ' h' t' u R' T' L' v'=>zL (wpAny_point (q σ' h' t' () R' T' L' trivial)))
theorem uC {x:Str} {p:Pos} {a:AV} {v:Value} (hx:ownName sc x=true):RunS c A sc env (assign (.Name x p) env v) ρ S (jA x a ρ) S (fun _ _ _=>True) (fun σ h=>VRel c σ h a v):=by
 rw [arm_assign_Name]
 exact RunS.at (jh8 hx)
theorem jd8 {t:Str→Value→Sem Unit} (ht:∀ x a v (ρ:Loc) (S:St),ownName sc x=true→RunS c A sc env (t x v) ρ S (jA x a ρ) S (fun _ _ _=>True) (fun σ h=>VRel c σ h a v)):∀ {xs:List Str} {vs:List AV} {ws:List Value} {ρ:Loc},(∀ x∈xs,ownName sc x=true)→xs.length=vs.length→
  RunS c A sc env (assignInOrder (xs.map t) ws) ρ S (putAll xs vs ρ) S (fun _ _ _=>True) (fun σ h=>VRels c σ h vs ws)
 | [],[],ws,ρ,_,_=>RunS.by (p:=ws=[]) (fun σ h _ i=>by obtain rfl:=i.nil';rfl) fun e=>by subst e;exact RunS.pure fun _ _ _=>trivial
 | x::xs,a::vs,ws,ρ,hx,hl=>by
  refine RunS.by (p:=∃ w ws',ws=w::ws') (fun σ h _ i=>by refine jB i.cons' fun _ _ q2q _ _=>?_;obtain rfl:=q2q;exact ⟨_,_,rfl⟩) fun ⟨w,ws',e⟩=>?_
  subst e
  refine RunS.bind (V:=fun _ _ _=>True) StabX.vrels (RunS.holding ((ht x a w ρ S (hx x (.head _))).pre fun σ h _ i=>by refine jB i.cons' fun _ _ e15q V r=>?_;refine xA (List.cons.inj e15q) fun q0q q1q=>?_;obtain rfl:=q0q;obtain rfl:=q1q;exact V)) fun _=>?_
  exact (jd8 ht (fun y hy=>hx y (.tail _ hy)) (by simpa using hl)).pre fun σ h _ i=>by
   refine jB i.1.cons' fun _ _ e16q V r=>?_;refine xA (List.cons.inj e16q) fun q0q q1q=>?_;obtain rfl:=q0q;obtain rfl:=q1q
   ·exact r
 | [],_::_,_,_,_,hl=>by simp at hl
 | _::_,[],_,_,_,hl=>by simp at hl
theorem tN {x:Str} {p:Pos} {ts:List Expr}:assignEach (.Name x p::ts) env=(false,assign (.Name x p) env)::assignEach ts env:=rfl
theorem nN:∀ {ts:List Expr} {xs:List Str},targetNames ts=some xs→(assignEach ts env).findIdx? (·.1)=none∧(assignEach ts env).length=xs.length∧xs.length=ts.length∧
  ∀ {vs:List AV} {ws:List Value} {ρ:Loc},(∀ x∈xs,ownName sc x=true)→xs.length=vs.length→RunS c A sc env (assignInOrder ((assignEach ts env).map (·.2)) ws) ρ S (putAll xs vs ρ) S (fun _ _ _=>True) (fun σ h=>VRels c σ h vs ws)
 | [],xs,e=>by
  obtain rfl:=Option.some.inj e
  refine ⟨rfl,rfl,rfl,fun {vs ws ρ} _ hl=>?_⟩
  have:vs=[]:=List.length_eq_zero_iff.mp hl.symm
  subst this
  exact RunS.by (p:=ws=[]) (fun σ h _ i=>by obtain rfl:=i.nil';rfl) fun e=>by subst e;exact RunS.pure fun _ _ _=>trivial
 | t::ts,xs,e=>by
  induction t using PySem.Expr.casesOn with
  | Name x p=>
   refine xEA (mI e) fun ys e1 e2=>?_
   subst e2
   replace e:=e1
   refine xAAA (nN (ts:=ts) e) fun i1 i2 i3 i4=>?_
   refine ⟨by rw [tN];simpa [List.findIdx?_cons] using i1,by rw [tN];simp [i2],by simp [i3],fun {vs ws ρ} hx hl=>?_⟩
   induction vs using List.casesOn with
   | nil=>exact nomatch hl
   | cons a vs=>
    refine RunS.by (p:=∃ w ws',ws=w::ws') (fun σ h _ i=>by refine jB i.cons' fun _ _ q2q _ _=>?_;obtain rfl:=q2q;exact ⟨_,_,rfl⟩) fun ⟨w,ws',e⟩=>?_
    subst e
    show RunS c A sc env (PySem.holding ws' (assign (.Name x p) env w) >>= fun _=>assignInOrder ((assignEach ts env).map (·.2)) ws') ρ S (putAll ys vs (jA x a ρ)) S _ _
    refine RunS.bind (V:=fun _ _ _=>True) StabX.vrels (RunS.holding ((uC (hx x (.head _))).pre fun σ h _ i=>by refine jB i.cons' fun _ _ e17q V r=>?_;refine xA (List.cons.inj e17q) fun q0q q1q=>?_;obtain rfl:=q0q;obtain rfl:=q1q;exact V)) fun _=>?_
    exact (i4 (fun y hy=>hx y (.tail _ hy)) (by simpa using hl)).pre fun σ h _ i=>by
     refine jB i.1.cons' fun _ _ e18q V r=>?_;refine xA (List.cons.inj e18q) fun q0q q1q=>?_;obtain rfl:=q0q;obtain rfl:=q1q
     ·exact r
  | _=>exact j0 e
noncomputable def u7 (sc:Scope):Expr→Bool
 | .Name x _=>ownName sc x
 | .Tuple ts _ _=>match targetNames ts with
  | some xs=>xs.all (ownName sc)
  | none=>false
 | _=>false
theorem tF (r:Room A n) {t:Expr} {a:AV} {v:Value} (hk:u7 sc t=true) (hb:Binds t a ρ S ρ1):RunS c A sc env (assign t env v) ρ S ρ1 S (fun _ _ _=>True) (fun σ h=>VRel c σ h a v):=by
 induction hb using Binds.casesOn with
 | name x p e=>subst e;exact uC hk
 | tuple ts k p xs vs e e1 e2 hl=>
  subst e
  have hk:(match targetNames ts with | some xs=>xs.all (ownName sc) | none=>false)=true:=hk
  replace hk:=e1▸hk
  refine xAAA (nN (c:=c) (A:=A) (sc:=sc) (env:=env) (S:=S) e1) fun i1 i2 i3 i4=>?_
  rw [arm_assign_Tuple]
  refine RunS.at ?_
  unfold unpack
  rw [i1,i2,hl]
  refine RunS.bind (V:=fun σ h ws=>VRels c σ h vs ws) StabX.vrel (RunS.holding (RunC.s (Run.lift ((jd7 r e2).pre fun σ h _ i=>i.2)))) fun ws=>?_
  exact (i4 (List.all_eq_true.mp hk) hl).pre fun σ h _ i=>i.2
end
end Mine
end
section
open PySem PySem.W PyProof.Rows PySem.Calls
namespace Mine
section
variable {c:Cx} {A:Around} {sc:Scope} {env:Env} {ρ ρ1 ρ2:Loc} {n:Nat} {S S1 S2 S3:St} {σ σ1 σ2:Sig} {h h1 h2:Heap}
inductive ItAt (c:Cx) (σ:Sig) (h:Heap) (S:St) (I:Addr):List AV→Option Nat→Nat→Prop
 | tup (t:Addr) (vs:List Value) (xs:List AV) (i:Nat):IsTupIter h I t i→IsTup h t vs.toArray→VRels c σ h xs vs→t≠I→ItAt c σ h S I xs none i
 | bytes (b:List UInt8) (t:Tok) (i:Nat):KBw.IsBytesIter h I b.toArray t i→ItAt c σ h S I (b.map fun x=>.int x.toNat) none i
 | list (k:Nat) (l:Addr) (xs:List AV) (i:Nat):σ[k]? = some (l,none)→S[k]? = some (.list xs)→h.IsListIter I l i→ItAt c σ h S I xs (some k) i
 | dict (k:Nat) (d:Addr) (fl:Nat) (es:List (AV×AV)) (ep i:Nat):σ[k]? = some (d,none)→S[k]? = some (.dict fl es ep)→h.IsKeyIter I d i es.length ep→ItAt c σ h S I (es.map (·.1)) (some k) i
 | range (m i:Nat):IsRangeIter h I i ((m:Int) - i) 1→i≤m→ItAt c σ h S I (jR m) none i
theorem ItAt.alive {I:Addr} {xs:List AV} {g:Option Nat} {i:Nat} (x:ItAt c σ h S I xs g i):(∃ o,h.get? I=some o)∧∀ vs,¬ IsTup h I vs:=by
 have fin:∀ {o:Obj} {f:Array Value},h.get? I=some o→o.data = .fields f→(∃ o,h.get? I=some o)∧∀ vs,¬ IsTup h I vs:=fun {o f} e d=>⟨⟨o,e⟩,fun vs ⟨o',e',_,n,d'⟩=>by
  rw [e] at e';obtain rfl:=Option.some.inj e'
  rw [d] at d';exact PySem.Data.noConfusion d'⟩
 induction x using ItAt.casesOn with
 | tup t vs xs i a _ _ _=>refine yJ a fun o e _ d=>?_;exact fin e d
 | bytes b t i a=>refine yJ a fun o e _ d=>?_;exact fin e d
 | list k l xs i _ _ a=>refine yJ a fun o e _ d=>?_;exact fin e d
 | dict k d fl es ep i _ _ a=>refine yJ a fun o e _ d=>?_;exact fin e d
 | range m i a _=>exact fin a rfl
theorem je9 (Y:kS c) {a:AV} {v:Value} {xs:List AV} {g:Option Nat} (hi:itemsOf S a=some (xs,g)) {s:Shared} {Q:Value→Shared→Prop} {E:Value→Shared→Prop} (R:Rep c σ S s.heap) (V:VRel c σ s.heap a v)
  (q:∀ h' I,(∀ b o,s.heap.get? b=some o→h'.get? b=some o)→s.heap.get? I=none→ItAt c σ h' S I xs g 0→Q (.ref I) { s with heap:=h' }):wpAny (model c.prog c.w) A (pyIter v) Q E s:=by
 have new:s.heap.get? s.heap.objs.size=none:=Heap.get?_none_of_le (Nat.le_refl _)
 refine jm6 (P:=fun a p=>VRel c σ s.heap a v→(∀ h' I,(∀ b o,s.heap.get? b=some o→h'.get? b=some o)→s.heap.get? I=none→ItAt c σ h' S I p.1 p.2 0→Q (.ref I) { s with heap:=h' })→wpAny (model c.prog c.w) A (pyIter v) Q E s) hi (fun xs V q=>?_) (fun b V q=>?_) (fun k xs hS V q=>?_) (fun k fl es ep hS V q=>?_) V q
 ·refine jB V.tup' fun t ws q2q ht rv=>?_;obtain rfl:=q2q
  ·
   refine iter_tuple ht (q _ _ (fun b o e=>Heap.get?_push_of_some _ e) new ?_)
   refine .tup t ws _ 0 ⟨_,Heap.get?_push_size _ rfl,rfl,rfl⟩ (ht.push _) ?_ fun e=>?_
   ·have:=rv.mono (more:=[]) (zF (h:=s.heap) { cls:=.type "tuple_iterator",data:=.fields #[.ref t,.int 0 0]})
    rwa [List.append_nil] at this
   ·refine xEA ht fun o e' _=>?_
    rw [e,new] at e';exact j0 e'
 ·refine xE V.bytes' fun t q1q=>?_;obtain rfl:=q1q
  ·exact KBw.pyIter_bytes (q _ _ (fun b o e=>Heap.get?_push_of_some _ e) new (.bytes _ t 0 ⟨_,Heap.get?_push_size _ rfl,rfl,rfl⟩))
 ·refine jL (R.list V hS) fun l ws m sl q4q hσ ho rv=>?_;obtain rfl:=q4q
  exact wpAny_pyIter_list ⟨_,ho,rfl,m,rfl⟩ (q _ _ (fun b o e=>Heap.get?_push_of_some _ e) new (.list k l _ 0 hσ hS ⟨_,Heap.get?_push_size _ rfl,rfl,rfl⟩))
 ·refine kE (R.dict V hS) fun d ds q2q D=>?_;obtain rfl:=q2q
  have e:=D.rel.length
  refine jgC (D.sys Y) D.isDs (q _ _ (fun b o e=>Heap.get?_push_of_some _ e) new (.dict k d fl es ep 0 D.sig hS ?_))
  rw [e]
  exact ⟨_,Heap.get?_push_size _ rfl,rfl,rfl⟩
theorem jgI {I:Addr} {xs:List AV} {g:Option Nat} {i:Nat} {x:AV} {s:Shared} {Q:Option Value→Shared→Prop} {E:Value→Shared→Prop} (R:Rep c σ S s.heap) (it:ItAt c σ s.heap S I xs g i) (hm:I ∉ jZ σ) (hx:xs[i]? = some x)
  (q:∀ h' t' v,Heap.SameBut I s.heap h'→VRel c σ h' x v→ItAt c σ h' S I xs g (i+1)→Q (some v) { s with heap:=h',toks:=t' }):wpAny (model c.prog c.w) A (pyNext (.ref I)) Q E s:=by
 have nt:=it.alive.2
 have tk:∀ {h'},Heap.SameBut I s.heap h'→∀ a vs,IsTup s.heap a vs→IsTup h' a vs:=fun hs a vs t=>t.extBut hs.extBut fun e=>nt vs (e▸t)
 induction it using ItAt.casesOn with
 | tup t vs xs i a b rv ne=>
  refine xEA (rv.get hx) fun v hv V=>?_
  refine next_tuple_item a b (x:=v) (by simpa using hv) fun h' a' hs=>?_
  have V':=V.mono (more:=[]) (tk hs)
  rw [List.append_nil] at V'
  have rv':=rv.mono (more:=[]) (tk hs)
  rw [List.append_nil] at rv'
  exact q h' s.toks v hs V' (.tup t vs _ _ a' (b.extBut hs.extBut ne) rv' ne)
 | bytes b t i a=>
  rw [List.getElem?_map,Option.map_eq_some_iff] at hx
  obtain ⟨y,hy,rfl⟩:=hx
  exact KBw.next_item a (c:=y) (by simpa using hy) fun h' a' hs=>q h' _ _ hs (.int _ _) (.bytes b t _ a')
 | list k l xs i hσ hS a=>
  refine xEA (R.sig hS) fun p hp OR=>?_
  rw [hσ] at hp;obtain rfl:=Option.some.inj hp
  cases OR with
  | list _ _ vs hpl rv=>
   refine xEA (rv.get hx) fun v hv V=>?_
   refine wpAny_pyNext_list_item a hpl.isList (x:=v) (by simpa using hv) fun h' a' hs=>?_
   have V':=V.mono (more:=[]) (tk hs)
   rw [List.append_nil] at V'
   exact q h' s.toks v hs V' (.list k l _ _ hσ hS a')
 | dict k d fl es ep i hσ hS a=>
  refine xEA (R.sig hS) fun p hp OR=>?_
  rw [hσ] at hp;obtain rfl:=Option.some.inj hp
  cases OR with
  | dict _ _ _ _ ds e r nd f=>
   rw [List.getElem?_map,Option.map_eq_some_iff] at hx
   obtain ⟨kv,hkv,rfl⟩:=hx
   have hl:=r.length
   refine jB (r.at (k:=kv.1) (v:=kv.2) hkv) fun w1 w2 hd V1 V2=>?_
   rw [hl] at a
   refine jp1 a (show IsDs s.heap d ds ep from e) (e:=⟨_,w1,w2⟩) hd fun h' a' hs=>?_
   have V':=V1.mono (more:=[]) (tk hs)
   rw [List.append_nil] at V'
   rw [← hl] at a'
   exact q h' s.toks _ hs V' (.dict k d fl es ep _ hσ hS a')
 | range m i a hle=>
  have hlt:i < m:=by
   have:=(List.getElem?_eq_some_iff.mp hx).1
   simpa [jR] using this
  refine wpAny_pyNext_range_item a (by lia) fun h' a' hs=>?_
  have hx':x = .int (i:Int):=by
   have e:(jR m)[i]? = some (.int (i:Int)):=by simp [jR,hlt]
   rw [e] at hx;exact (Option.some.inj hx).symm
  subst hx'
  refine q h' _ _ hs (.int _ _) (.range m _ ?_ hlt)
  have e1:(i:Int)+1=((i+1:Nat):Int):=by lia
  have e2:(m:Int) - i - 1=(m:Int) - ((i+1:Nat):Int):=by lia
  rw [e1,e2] at a'
  exact a'
theorem jkI (r:Room A n) {I:Addr} {xs:List AV} {g:Option Nat} {s:Shared} {Q:Option Value→Shared→Prop} {E:Value→Shared→Prop} (R:Rep c σ S s.heap) (it:ItAt c σ s.heap S I xs g xs.length)
  (q:∀ h',Heap.ExtBut I s.heap h'→Q none { s with heap:=h' }):wpAny (model c.prog c.w) A (pyNext (.ref I)) Q E s:=by
 generalize hi:xs.length=i at it
 induction it using ItAt.casesOn with
 | tup t vs xs i a b rv ne=>
  have:=rv.length
  exact next_tuple_end r.hd a b (by simp;lia) q
 | bytes b t i a=>
  refine KBw.next_end r.hd a ?_ q
  rw [← hi];simp
 | list k l xs i hσ hS a=>
  refine xEA (R.sig hS) fun p hp OR=>?_
  rw [hσ] at hp;obtain rfl:=Option.some.inj hp
  cases OR with
  | list _ _ vs hpl rv=>
   have:=rv.length
   exact wpAny_pyNext_list_end r.hd a hpl.isList (by simp;lia) q
 | dict k d fl es ep i hσ hS a=>
  refine xEA (R.sig hS) fun p hp OR=>?_
  rw [hσ] at hp;obtain rfl:=Option.some.inj hp
  cases OR with
  | dict _ _ _ _ ds e rr nd f=>
   have hl:=rr.length
   rw [hl] at a
   simp at hi
   exact js9 r.hd a (show IsDs s.heap d ds ep from e) (by lia) q
 | range m i a hle=>
  simp [jR] at hi
  exact wpAny_pyNext_range_end r.hd a (by lia) q
theorem ItAt.step {X:List Addr} {I:Addr} {xs:List AV} {g:Option Nat} {i:Nat} (it:ItAt c σ h S I xs g i) (T:StepX c X σ h σ1 h1) (hm:I ∉ jZ σ) (hX:I ∉ X) (hg:stays g S S1=true):ItAt c σ1 h1 S1 I xs g i:=by
 refine xE T.grow fun m q1q=>?_;obtain rfl:=q1q
 induction it using ItAt.casesOn with
 | tup t vs xs i a b rv ne=>
  refine xEA a fun o e r=>?_
  exact .tup t vs _ _ ⟨o,T.ext _ _ e hm hX,r⟩ (T.tup _ _ b) (rv.mono T.tup) ne
 | bytes b t i a=>
  refine xEA a fun o e r=>?_
  exact .bytes b t _ ⟨o,T.ext _ _ e hm hX,r⟩
 | list k l xs i hσ hS a=>
  refine xEA a fun o e r=>?_
  exact .list k l _ _ (jj5 hσ) ((of_decide_eq_true hg).trans hS) ⟨o,T.ext _ _ e hm hX,r⟩
 | dict k d fl es ep i hσ hS a=>
  refine xEA a fun o e r=>?_
  exact .dict k d fl es ep _ (jj5 hσ) ((of_decide_eq_true hg).trans hS) ⟨o,T.ext _ _ e hm hX,r⟩
 | range m i a hle=>exact .range m _ (T.ext _ _ a hm hX) hle
end
end Mine
end
section
open PySem PySem.W PyProof.Rows PySem.Calls
namespace Mine
section
variable {c:Cx} {A:Around} {sc sc':Scope} {env cenv:Env} {ρ ρ0 ρ1 ρ2:Loc} {n:Nat} {S S1 S2 S3:St} {σ σ0 σ1 σ2:Sig} {h h0 h1 h2:Heap} {x:Str}
noncomputable def jJ (cells:List (Str×Addr)):List (Str×NameKind)→List (Str×Addr)→List (Str×Addr)
 | [],acc=>acc
 | (y,k)::r,acc=>if (k == .free)=true then jJ cells r ((y,(cells.lookup y).getD 0)::acc) else jJ cells r acc
theorem joI {env:Env} (hc:∀ p∈sc.names,p.2 = .free→∃ a,env.cells.lookup p.1=some a):closureFor sc env=pure (jJ env.cells sc.names []):=by
 have key:∀ (names:List (Str×NameKind)) (acc:List (Str×Addr)),(∀ p∈names,p.2 = .free→∃ a,env.cells.lookup p.1=some a)→
   (forIn names acc fun (x:Str×NameKind) (r:List (Str×Addr))=>(match x with
    | (name,kind)=>if (kind == .free)=true then do let a ← cellOf env name;pure (ForInStep.yield ((name,a)::r)) else pure (ForInStep.yield r):Sem (ForInStep (List (Str×Addr)))))=pure (jJ env.cells names acc):=by
  intro names
  induction names with
  | nil=>intro acc _;rfl
  | cons p r ih=>
   intro acc hp
   obtain ⟨y,k⟩:=p
   rw [List.forIn_cons]
   unfold jJ
   cases hk:(k==NameKind.free) with
   | true=>
    rw [if_pos rfl]
    refine xE (hp (y,k) (.head _) (by simpa using hk)) fun a ha=>?_
    dsimp only at ha ⊢
    have e:cellOf env y=pure a:=by unfold cellOf;rw [ha]
    rw [if_pos hk,e,ha]
    exact ih _ fun p hp'=>hp p (.tail _ hp')
   | false=>
    rw [if_neg Bool.false_ne_true]
    dsimp only
    rw [if_neg (by rw [hk];exact Bool.false_ne_true)]
    exact ih _ fun p hp'=>hp p (.tail _ hp')
 have:=key sc.names [] hc
 first
  | exact (congrArg (fun t=>t >>= fun cs=>pure cs) this)
  | (rw [this];rfl)
theorem qR {cells:List (Str×Addr)}:∀ {names:List (Str×NameKind)} {acc:List (Str×Addr)} {y:Str} {a:Addr},(∀ p∈names,p.2 = .free→∃ a,cells.lookup p.1=some a)→(y,a)∈jJ cells names acc→(y,a)∈acc∨((y,NameKind.free)∈names∧cells.lookup y=some a)
 | [],acc,y,a,_,h=>.inl h
 | (z,k)::r,acc,y,a,hp,h=>by
  unfold jJ at h
  split at h
  ·rename_i hk
   have hk:k = .free:=by simpa using hk
   subst hk
   obtain ⟨b,hb⟩:=hp (z,.free) (.head _) rfl
   rcases qR (fun p hp'=>hp p (.tail _ hp')) h with q | q
   ·rcases List.mem_cons.mp q with q | q
    ·(refine xA (Prod.mk.inj q) fun e13q q1q=>?_;obtain rfl:=q1q;obtain rfl:=e13q.symm)
     refine .inr ⟨.head _,?_⟩
     dsimp only at hb
     rw [hb];rfl
    ·exact .inl q
   ·exact .inr ⟨.tail _ q.1,q.2⟩
  ·rcases qR (fun p hp'=>hp p (.tail _ hp')) h with q | q
   ·exact .inl q
   ·exact .inr ⟨.tail _ q.1,q.2⟩
theorem vT {cells:List (Str×Addr)}:∀ {names:List (Str×NameKind)} {acc:List (Str×Addr)} {y:Str},((y,NameKind.free)∈names∨∃ a,(y,a)∈acc)→∃ a,(y,a)∈jJ cells names acc
 | [],acc,y,h=>by
  rcases h with h | h
  ·cases h
  ·exact h
 | (z,k)::r,acc,y,h=>by
  unfold jJ
  split
  ·rename_i hk
   refine vT ?_
   rcases h with h | ⟨a,h⟩
   ·rcases List.mem_cons.mp h with q | q
    ·(refine xA (Prod.mk.inj q) fun e14q q1q=>?_;obtain rfl:=q1q;obtain rfl:=e14q.symm);exact .inr ⟨_,.head _⟩
    ·exact .inl q
   ·exact .inr ⟨a,.tail _ h⟩
  ·rename_i hk
   refine vT ?_
   rcases h with h | h
   ·rcases List.mem_cons.mp h with q | q
    ·(refine xA (Prod.mk.inj q) fun e15q q1q=>?_;obtain rfl:=q1q;obtain rfl:=e15q.symm);exact absurd rfl hk
    ·exact .inl q
   ·exact .inr h
theorem lookup_isSome {l:List (Str×Addr)} {y:Str} {a:Addr} (h:(y,a)∈l):∃ b,l.lookup y=some b:=by
 induction l with
 | nil=>cases h
 | cons p r ih=>
  obtain ⟨z,b⟩:=p
  rw [List.lookup_cons]
  cases hz:(y==z) with
  | true=>exact ⟨b,rfl⟩
  | false=>
   rcases List.mem_cons.mp h with q | q
   ·refine xA (Prod.mk.inj q) fun q0q q1q=>?_;obtain rfl:=q0q;obtain rfl:=q1q;simp at hz
   ·exact ih q
theorem vR {cells:List (Str×Addr)}:∀ {names:List (Str×NameKind)} {acc:List (Str×Addr)},(names.map (·.1)).Nodup→(acc.map (·.1)).Nodup→(∀ p∈acc,p.1 ∉ names.map (·.1))→((jJ cells names acc).map (·.1)).Nodup
 | [],acc,_,h,_=>h
 | (z,k)::r,acc,hn,ha,hd=>by
  rw [List.map_cons,List.nodup_cons] at hn
  unfold jJ
  split
  ·refine vR hn.2 ?_ fun p hp q=>?_
   ·rw [List.map_cons,List.nodup_cons]
    refine ⟨fun q=>?_,ha⟩
    refine xEA (List.mem_map.mp q) fun p hp e=>?_
    exact hd p hp (by rw [e];exact .head _)
   ·rcases List.mem_cons.mp hp with e | hp
    ·replace q:=e▸q;exact hn.1 q
    ·exact hd p hp (.tail _ q)
  ·exact vR hn.2 ha fun p hp q=>hd p hp (.tail _ q)
theorem yC:∀ {names:List (Str×NameKind)} {y:Str} {k:NameKind},names.lookup y=some k→(y,k)∈names
 | [],_,_,h=>by exact j0 h
 | (z,k')::r,y,k,h=>by
  rw [List.lookup_cons] at h
  cases hz:(y==z) with
  | true=>
   rw [hz] at h
   obtain rfl:=Option.some.inj h
   rw [show y=z by simpa using hz]
   exact .head _
  | false=>
   rw [hz] at h
   exact .tail _ (yC h)
theorem zV {env:Env}:∀ {names:List (Str×NameKind)} {y:Str} {k:NameKind},names.lookup y=some k→
  (names.map fun (n,k)=>if (k==NameKind.free&&env.scope.kind == .function&&env.kindOf n==some .cell) then (n,NameKind.cell) else (n,k)).lookup y=some k∨(k = .free∧(names.map fun (n,k)=>if (k==NameKind.free&&env.scope.kind == .function&&env.kindOf n==some .cell) then (n,NameKind.cell) else (n,k)).lookup y=some .cell)
 | [],_,_,h=>by exact j0 h
 | (z,k')::r,y,k,h=>by
  rw [List.lookup_cons] at h
  rw [List.map_cons]
  cases hz:(y==z) with
  | true=>
   rw [hz] at h
   have e:=Option.some.inj h
   subst e
   dsimp only
   by_cases hc:(k'==NameKind.free&&env.scope.kind == .function&&env.kindOf z==some .cell)=true
   ·rw [if_pos hc]
    simp only [Bool.and_eq_true,beq_iff_eq] at hc
    right
    exact ⟨hc.1.1,by rw [List.lookup_cons,hz]⟩
   ·rw [if_neg hc]
    left
    rw [List.lookup_cons,hz]
  | false=>
   replace h:=hz▸h
   dsimp only
   by_cases hc:(k'==NameKind.free&&env.scope.kind == .function&&env.kindOf z==some .cell)=true
   ·rw [if_pos hc]
    rw [List.lookup_cons,hz]
    exact zV h
   ·rw [if_neg hc]
    rw [List.lookup_cons,hz]
    exact zV h
noncomputable def jaF (sc sc':Scope) (x:Str):Bool:=
 decide (sc'.kind = .function)&&decide ((sc'.names.map (·.1)).Nodup)&&sc'.names.all (fun p=>(decide (p.2 = .local)&&(decide (p.1=x)||decide (p.1 = ".0")))||(decide (p.2 = .free)&&(decide (jF sc p.1=some .cell)||decide (jF sc p.1=some .free)))||decide (p.2 = .globalImplicit)) &&
 decide (jF sc' x=some .local)&&decide (x≠".0")
structure gD (sc sc':Scope) (x:Str):Prop where
 kind:sc'.kind = .function
 nd:(sc'.names.map (·.1)).Nodup
 all:∀ p∈sc'.names,(p.2 = .local∧(p.1=x∨p.1 = ".0"))∨(p.2 = .free∧(jF sc p.1=some .cell∨jF sc p.1=some .free))∨p.2 = .globalImplicit
 own:jF sc' x=some .local
 dot:x≠".0"
theorem ja9 (h:jaF sc sc' x=true):gD sc sc' x:=by
 unfold jaF at h
 simp only [Bool.and_eq_true,decide_eq_true_eq,List.all_eq_true,Bool.or_eq_true] at h
 refine xA h fun q0q h5=>?_;obtain ⟨⟨⟨h1,h2⟩,h3⟩,h4⟩:=q0q
 exact ⟨h1,h2,fun p hp=>by
  rcases h3 p hp with (q | q) | q
  ·exact .inl q
  ·exact .inr (.inl q)
  ·exact .inr (.inr q),h4,h5⟩
theorem uP {α β:Type} [DecidableEq α] {y z:α} {w:β} {r:List (α×β)}:j6 y ((z,w)::r)=if z=y then some w else j6 y r:=rfl
theorem zJ {α β:Type} [DecidableEq α] {x y:α}:∀ {l:List (α×β)},j6 y (l.filter fun p=>decide (p.1≠x))=if y=x then none else j6 y l
 | []=>by simp [j6]
 | (z,w)::r=>by
  rw [List.filter_cons]
  by_cases hz:z=x
  ·rw [if_neg (by simpa using hz),zJ,uP]
   by_cases hy:y=x
   ·rw [if_pos hy,if_pos hy]
   ·rw [if_neg hy,if_neg hy,if_neg (fun e=>hy (e.symm.trans hz))]
  ·rw [if_pos (by simpa using hz),uP,uP,zJ]
   by_cases hy:y=x
   ·rw [if_pos hy,if_pos hy,if_neg (fun e=>hz (e.trans hy))]
   ·rw [if_neg hy,if_neg hy]
theorem jmA {C:Addr} (L:LocRel c σ h sc env ρ) (K:gD sc sc' x) (R:Rep c σ S h) (hC:h.get? C=none) (hk:∀ b o,h.get? b=some o→h1.get? b=some o) (hn:h1.Ns C fun _=>none) :
  closureFor sc' env=pure (jJ env.cells sc'.names [])∧LocRel c σ h1 sc' (compEnvC sc' (jJ env.cells sc'.names []) C env) (ρ.filter fun p=>decide (p.1≠x)):=by
 have has:∀ p∈sc'.names,p.2 = .free→∃ a,env.cells.lookup p.1=some a:=fun p hp hf=>by
  rcases K.all p hp with q | q | q
  ·rw [hf] at q;exact PySem.NameKind.noConfusion q.1
  ·refine kE (L.cell p.1 q.2) fun a v e _=>?_
   exact ⟨a,e⟩
  ·rw [hf] at q;exact PySem.NameKind.noConfusion q
 have mem:∀ {y a},(y,a)∈jJ env.cells sc'.names []→(y,NameKind.free)∈sc'.names∧env.cells.lookup y=some a:=fun {y a} hm=>by
  rcases qR has hm with q | q
  ·cases q
  ·exact q
 have look:∀ y,(y,NameKind.free)∈sc'.names→∀ a,env.cells.lookup y=some a→(jJ env.cells sc'.names []).lookup y=some a:=fun y hy a ha=>by
  refine xE (vT (cells:=env.cells) (acc:=[]) (.inl hy)) fun b hb=>?_
  refine xE (lookup_isSome hb) fun b' hb'=>?_
  have:=(mem (mem_of_lookup hb')).2
  rw [ha] at this
  rw [hb',this]
 have tk:∀ a vs,IsTup h a vs→IsTup h1 a vs:=fun a vs t=>t.keeps hk
 have sub:∀ a∈(jJ env.cells sc'.names []).map (·.2),a∈env.cells.map (·.2):=fun a ha=>by
  refine xEA (List.mem_map.mp ha) fun q0q hm q2q=>?_;obtain ⟨y,b⟩:=q0q;obtain rfl:=q2q
  exact List.mem_map.mpr ⟨(y,b),mem_of_lookup (mem hm).2,rfl⟩
 have free_of:∀ y,jF sc' y=some .free→(y,NameKind.free)∈sc'.names:=fun y hy=>yC hy
 have nocell:∀ y,jF sc' y≠some .cell:=fun y hy=>by
  rcases K.all _ (yC hy) with q | q | q
  ·exact PySem.NameKind.noConfusion q.1
  ·exact PySem.NameKind.noConfusion q.1
  ·exact PySem.NameKind.noConfusion q
 have fa_alive:∀ a∈env.cells.map (·.2),∃ o,h.get? a=some o:=fun a ha=>L.live a (.tail _ ha)
 have nx:∀ y,jF sc' y=some .free→y≠x:=fun y hy e=>by
  subst e
  rw [K.own] at hy;exact PySem.NameKind.noConfusion (Option.some.inj hy)
 refine ⟨joI has,⟨K.kind,L.glob,L.blt,fun y hy=>lookup_relabel_local hy,fun y hy=>?_,fun y hy=>?_,⟨_,hn,fun y hy=>?_⟩,fun y hy=>?_,fun a ha=>?_,fun a ha q=>?_,fun a ha=>?_,?_,fun y hy=>absurd hy (nocell y),?_⟩⟩
 ·rcases hy with hy | hy
  ·exact absurd hy (nocell y)
  ·rcases zV (env:=env) hy with q | q
   ·exact .inr q
   ·exact .inl q.2
 ·rcases zV (env:=env) hy with q | q
  ·exact q
  ·exact PySem.NameKind.noConfusion q.1
 ·have:j6 y (ρ.filter fun p=>decide (p.1≠x))=none:=by
   rw [zJ]
   rcases K.all _ (yC hy) with q | q | q
   ·rcases q.2 with e | e
    ·rw [if_pos e]
    ·dsimp only at e
     rw [e,L.dot];split<;>rfl
   ·exact PySem.NameKind.noConfusion q.1
   ·exact PySem.NameKind.noConfusion q
  rw [this];exact .none
 ·rcases hy with hy | hy
  ·exact absurd hy (nocell y)
  ·have hm:=free_of y hy
   rcases K.all _ hm with q | q | q
   ·exact PySem.NameKind.noConfusion q.1
   ·refine jB (L.cell y q.2) fun a v e hcell hv=>?_
    refine ⟨a,v,look y hm a e,hcell.keeps hk,?_⟩
    rw [zJ,if_neg (nx y hy)]
    cases hv':j6 y ρ with
    | none=>
     replace hv:=hv'▸hv
     cases hv;exact .none
    | some u=>
     rw [hv'] at hv
     cases hv with
     | some V=>
      have:=V.mono (more:=[]) tk
      rw [List.append_nil] at this
      exact .some this
   ·exact PySem.NameKind.noConfusion q
 ·rcases List.mem_cons.mp ha with rfl | ha
  ·refine nY hn fun o es ep e _=>?_;exact ⟨o,e⟩
  ·refine xE (fa_alive a (sub a ha)) fun o e=>?_
   exact ⟨o,hk a o e⟩
 ·rcases List.mem_cons.mp ha with rfl | ha
  ·refine xEA (R.live q) fun o e _=>?_
   rw [show h.get? _=none from hC] at e;exact j0 e
  ·exact L.apart a (.tail _ (sub a ha)) q
 ·rcases List.mem_cons.mp ha with ea | ha
  ·rw [show a=C from ea]
   cases e:c.H0.get? C with
   | none=>rfl
   | some o=>rw [R.keep _ _ e] at hC;exact j0 hC.symm
  ·exact L.above a (.tail _ (sub a ha))
 ·show (C::(jJ env.cells sc'.names []).map (·.2)).Nodup
  rw [List.nodup_cons]
  refine ⟨fun q=>?_,?_⟩
  ·refine xE (fa_alive C (sub C q)) fun o e=>?_
   rw [hC] at e;exact j0 e
  ·have nd1:=vR (cells:=env.cells) (acc:=[]) K.nd (by decide) (by simp)
   have nd2:=L.nd
   unfold fa at nd2
   rw [List.nodup_cons] at nd2
   rw [List.nodup_iff_pairwise_ne,List.pairwise_map] at nd1 ⊢
   refine nd1.imp_of_mem fun {p q} hp hq hne e=>hne ?_
   obtain ⟨y,a⟩:=p
   obtain ⟨z,b⟩:=q
   dsimp only at e ⊢
   subst e
   exact x6 nd2.2 (mem hp).2 (mem hq).2
 ·rw [zJ]
  split
  ·rfl
  ·exact L.dot
end
end Mine
end
section
open PySem PySem.W PyProof.Rows PySem.Calls
namespace Mine
section
variable {M:Model} {A:Around} {E:Value→Shared→Prop} {s:Shared} {env:Env}
theorem jk3 {α:Type} {m:Sem α} {Q:Except Value α→Shared→Prop} (h:wpC M A m (fun a=>Q (.ok a)) (fun e=>Q (.error e)) s):wpC M A m.attempt Q E s:=fun Γ p hΓ hC=>by
 rw [Sem.wp_attempt];exact h Γ p hΓ hC
theorem jlV {α:Type} {c:Prop} [Decidable c] {pos:Pos} {k:PUnit→Sem α} {Q:α→Shared→Prop} (h:wpC M A (k ()) Q E s):wpC M A (if c then standAt pos >>= k else k ()) Q E s:=by
 split
 ·exact j3 (wpAny_standAt h)
 ·exact h
noncomputable def mL (M:Model) (A:Around) (E:Value→Shared→Prop) (use:Option (Value→Sem Unit)) (Q:Value→Shared→Prop) (acc:Value) (C:Addr) (r:Result) (s':Shared):Prop:=
 match r,use with
 | .ok _,none=>∃ m,s'.heap.Ns C m∧∀ h',Heap.SameBut C s'.heap h'→Q acc { s' with heap:=h' }
 | .ok _,some u=>wpC M A (u acc) (fun _ s''=>∃ m,s''.heap.Ns C m∧∀ h',Heap.SameBut C s''.heap h'→Q .none { s'' with heap:=h' }) E s'
 | .error _,_=>False
theorem jjU {e:Expr} {scope:Scope} {pos:Pos} {newAcc first:Sem Value} {g:Comprehension} {gs:List Comprehension} {cl:List (Str×Addr)} {use:Option (Value→Sem Unit)} {Q:Value→Shared→Prop}
  (hcl:clausesOf e=g::gs) (hs:∀ x,foldedSetIterable g.iter env x=pure x) (hkind:scope.kind = .function) (hnames:∀ x∈scope.names,x.2 = .local→scope.names.lookup x.1=some .local)
  (h:wpC M A first (fun x s₁=>closureFor scope env=pure cl∧wpAny M A (pyIter x) (fun it s₂=>wpAny M A newAcc (fun acc s₃=>
   wpAny M A (newFunctionEnv scope env.globals cl [] env.qual none .none (some env)) (fun cenv s₄=>
    kQ M A (.compStart e 0 it acc { cenv with scope:=relabel scope env }) (mL M A E use Q acc cenv.locals) s₄) E s₃) E s₂) E s₁) E s) :
  wpC M A (comprehension e scope env pos newAcc false first use) Q E s:=by
 unfold comprehension
 rw [hcl]
 refine j8 (y5 h (fun x s₁ hh=>?_) fun _ _ h'=>h')
 refine xA hh fun hclos h₁=>?_
 rw [hclos]
 refine j3 (wpAny_standAt (j3 (wpAny_of_eq (hs x) ?_)))
 refine j3 (wpAny_holding (wpAny_mono h₁ (fun it s₂ h₂=>?_) fun _ _ h'=>h'))
 refine jlV ?_
 refine j3 (wpAny_mono h₂ (fun acc s₃ h₃=>?_) fun _ _ h'=>h')
 refine j3 (wpAny_pure (j3 (wpAny_mono h₃ (fun cenv s₄ h₄=>?_) fun _ _ h'=>h')))
 dsimp only
 have hv:∀ x∈(scope.names.filter fun x=>(x.2 == .local||x.2 == .cell)&&x.1 != (".0" : Str)).reverse,x.2 = .local→
   Env.kindOf { cenv with scope:=relabel scope env } x.1=some .local:=fun x hx hl=>lookup_relabel_local (hnames x (List.mem_filter.mp (List.mem_reverse.mp hx)).1 hl)
 have hv':∀ x∈(scope.names.filter fun x=>(x.2 == .local||x.2 == .cell)&&x.1 != (".0" : Str)).reverse.drop 1++(scope.names.filter fun x=>(x.2 == .local||x.2 == .cell)&&x.1 != (".0" : Str)).reverse.take 1,
   x.2 = .local→Env.kindOf { cenv with scope:=relabel scope env } x.1=some .local:=fun x hx hl=>by
  rcases List.mem_append.mp hx with h1 | h1
  ·exact hv x (List.mem_of_mem_drop h1) hl
  ·exact hv x (List.mem_of_mem_take h1) hl
 refine jG (j8 (jk3 (jG (jpK (tU h₄ fun r s' hr=>?_)))))
 induction r using Except.casesOn with
 | ok f=>
  induction use using Option.casesOn with
  | none=>
   refine xEA hr fun m hn hr=>?_
   exact j3 (wpAny_holding (wpAny_comp_letGo (cenv:={ cenv with scope:=relabel scope env }) hkind _ s' m hv hn fun h' m' _ hs'=>jE (hr h' hs')))
  | some u=>
   refine j3 (wpAny_rule (j8 (jG (y5 hr (fun _ s'' hr'=>?_) fun _ _ h'=>h'))))
   refine xEA hr' fun m hn hr'=>?_
   exact j3 (wpAny_comp_letGo (cenv:={ cenv with scope:=relabel scope env }) hkind _ s'' m hv' hn fun h' m' _ hs'=>jE (hr' h' hs'))
 | error x=>exact hr.elim
end
end Mine
end
section
open PySem PySem.W PyProof.Rows PySem.Calls
namespace Mine
section
variable {c:Cx} {A:Around} {sc sc':Scope} {env cenv:Env} {ρ ρp ρ0 ρ1 ρ2:Loc} {n:Nat} {S S0 S1 S2 S3:St} {σ σ0 σ1 σ2:Sig} {h h0 h1 h2:Heap} {x:Str}
theorem LocRel.congr (L:LocRel c σ h sc env ρ1) (e:∀ y,j6 y ρ1=j6 y ρ2):LocRel c σ h sc env ρ2:=by
 refine xEA L.ns fun m hn hm=>?_
 exact ⟨L.kind,L.glob,L.blt,L.loc,L.cel,L.glo,⟨m,hn,fun y hy=>by rw [← e];exact hm y hy⟩,fun y hy=>by rw [← e];exact L.cell y hy,L.live,L.apart,L.above,L.nd,L.own,by rw [← e];exact L.dot⟩
theorem joE {a:AV} {v:Value} (hloc:jF sc x=some .local) (hdot:x≠".0") {s:Shared} {Q:Unit→Shared→Prop} {E:Value→Shared→Prop} (R:Rep c σ S s.heap) (L:LocRel c σ s.heap sc env ρ) (V:VRel c σ s.heap a v)
  (q:∀ h' t',Heap.SameBut env.locals s.heap h'→Rep c σ S h'→StepX c [env.locals] σ s.heap σ h'→LocRel c σ h' sc env (jA x a ρ)→Q () { s with heap:=h',toks:=t' }):wpAny (model c.prog c.w) A (bindName env x v) Q E s:=by
 refine wpAny_bind (wpAny_holding (wpAny_point ?_))
 refine xEA L.ns fun m hn hm=>?_
 have hp:(env.scope.kind == .class||(env.scope.kind == .module&&env.locals != env.globals))=false:=by rw [L.kind];rfl
 refine wpAny_bind (wpAny_storeName_local (L.loc x hloc) hn (fun h' hn' hs'=>wpAny_point ?_) hp)
 have nt:=zH hn
 have R':=R.but hs'.extBut (L.apart _ (.head _)) (L.above _ (.head _)) nt
 have T':StepX c [env.locals] σ s.heap σ h':=by
  refine ⟨⟨[],by simp⟩,fun _ h=>.inl h,fun b o e _ hx=>hs'.extBut b o (fun q=>hx (by simp [q])) e,fun b hb o e=>?_,fun b vs t=>t.extBut hs'.extBut fun e=>nt vs (e▸t),.ext fun b o e hx=>hs'.extBut b o (fun q=>hx (by simp [q])) e⟩
  have hb:b=env.locals:=by simpa using hb
  subst hb
  refine nY hn' fun o' _ _ e' _=>?_
  exact ⟨o',e'⟩
 refine q h' _ hs' R' T' ⟨L.kind,L.glob,L.blt,L.loc,L.cel,L.glo,⟨_,hn',fun y hy=>?_⟩,fun y hy=>?_,fun b hb=>?_,L.apart,L.above,L.nd,L.own,by rw [jV,if_neg hdot];exact L.dot⟩
 ·rw [jV]
  by_cases e:x=y
  ·subst e
   rw [if_pos rfl,if_pos rfl]
   exact .some (V.stepX T')
  ·rw [if_neg e,if_neg (fun q=>e q.symm)]
   exact (hm y hy).stepX T'
 ·have hxy:x≠y:=by
   rintro rfl
   rcases hy with hy | hy<;>rw [hloc] at hy<;>cases hy
  refine jB (L.cell y hy) fun b w hl hcell hv=>?_
  rw [jV,if_neg hxy]
  refine ⟨b,w,hl,hcell.sameBut hs' fun e=>?_,hv.stepX T'⟩
  have hb:b∈env.cells.map (·.2):=List.mem_map.mpr ⟨(y,b),mem_of_lookup hl,rfl⟩
  have:=L.nd
  unfold fa at this
  rw [List.nodup_cons] at this
  exact this.1 (e▸hb)
 ·refine xE (L.live b hb) fun o e=>?_
  by_cases hbl:b=env.locals
  ·subst hbl
   refine nY hn' fun o' _ _ e' _=>?_
   exact ⟨o',e'⟩
  ·exact ⟨o,hs'.extBut b o hbl e⟩
inductive Turns (p:AV→St→St→Prop) (g:Option Nat):List AV→St→St→Prop
 | nil (S:St):Turns p g [] S S
 | cons (v:AV) (vs:List AV) (S S2 S':St) (h:p v S S2) (hst:stays g S S2=true) (r:Turns p g vs S2 S'):Turns p g (v::vs) S S'
theorem Turns.nil' {p:AV→St→St→Prop} {g:Option Nat} {S S':St} (t:Turns p g [] S S'):S'=S:=by cases t;rfl
theorem Turns.cons' {p:AV→St→St→Prop} {g:Option Nat} {v:AV} {vs:List AV} {S S':St} (t:Turns p g (v::vs) S S'):∃ S2,p v S S2∧stays g S S2=true∧Turns p g vs S2 S':=by
 cases t with | cons _ _ _ S2 _ h hst r=>exact ⟨S2,h,hst,r⟩
theorem VRel.but {I:Addr} {a:AV} {v:Value} (V:VRel c σ h a v) (hk:Heap.ExtBut I h h1) (nt:∀ vs,¬ IsTup h I vs):VRel c σ h1 a v:=by
 have:=V.mono (more:=[]) (h':=h1) fun a vs t=>t.extBut hk fun e=>nt vs (e▸t)
 rwa [List.append_nil] at this
theorem jn7 {g:Option Nat}:stays g S S=true:=by
 unfold stays
 split
 ·rfl
 ·exact decide_eq_true rfl
theorem jrB (r:Room A n) {LC:Code} {px pos:Pos} {I:Addr} {k:Nat} {acc:Value} {rest:Sem Fin} {hd:Value→Sem Unit} {g:Option Nat} {xs:List AV} {R':Result→Shared→Prop}
  (hq:LC.quiet=true) (hl:tW LC=false) (hA:A.under LC=A) (hx:jF sc' x=some .local) (hdot:x≠".0")
  (hden:(model c.prog c.w).den LC=(standAt pos >>= fun _=>pyNext (.ref I) >>= fun o=>match o with
   | none=>pure (.done .next)
   | some v=>assign (.Name x px) cenv v >>= fun _=>rest).onRaise hd)
  {p:AV→St→St→Prop} (hrest:∀ v Sa Sb,p v Sa Sb→RunC c A Sa rest Sb (fun _ _ fin=>fin = .again LC) (fun σ h=>LocRel c σ h sc' cenv (jA x v ρ)∧VRel c σ h (.ref k) acc))
  (hI:h1.get? I=none) (hI0:c.H0.get? I=none) (hC:h1.get? cenv.locals=none) :
  ∀ (m i:Nat) (S S':St) (σ:Sig) (s:Shared) (ρp:Loc),xs.length - i=m→i≤xs.length→Rep c σ S s.heap→StepX c [] σ1 h1 σ s.heap→LocRel c σ s.heap sc' cenv ρp→(∀ y,y≠x→j6 y ρp=j6 y ρ)→
   ItAt c σ s.heap S I xs g i→I ∉ jZ σ→I ∉ fa cenv→VRel c σ s.heap (.ref k) acc→Turns p g (xs.drop i) S S'→
   (∀ σ' h' t',Rep c σ' S' h'→StepX c [] σ1 h1 σ' h'→(∃ ρ',LocRel c σ' h' sc' cenv ρ')→VRel c σ' h' (.ref k) acc→R' (.ok .next) { s with heap:=h',toks:=t' })→kQ (model c.prog c.w) A LC R' s:=by
 intro m
 induction m with
 | zero=>
  intro i S S' σ s ρp hm hi R T L hρ it hIm hIf V hev post
  have hi:i=xs.length:=by lia
  subst hi
  obtain rfl:=Turns.nil' (List.drop_length▸hev)
  refine jI hl ?_
  rw [hA,hden]
  have nt:=it.alive.2
  refine k7 (j3 (wpAny_standAt (j3 (jkI r R it fun h' hk=>?_))))
  exact jE (post σ h' s.toks (R.but hk hIm hI0 nt) (T.but hk hI) ⟨ρp,L.but hk hIf nt⟩ (V.but hk nt))
 | succ m ih=>
  intro i S S' σ s ρp hm hi R T L hρ it hIm hIf V hev post
  have hlt:i < xs.length:=by omega
  refine yJ (Turns.cons' (List.drop_eq_getElem_cons hlt▸hev)) fun S2 hturn hst hev=>?_
  ·
   refine jI hl ?_
   rw [hA,hden]
   have nt:=it.alive.2
   refine k7 (j3 (wpAny_standAt (j3 (jgI R it hIm (x:=xs[i]) (List.getElem?_eq_getElem hlt) fun h' t' v hs Vx it'=>?_))))
   have R1:=R.but hs.extBut hIm hI0 nt
   have T1:=T.but hs.extBut hI
   have L1:=L.but hs.extBut hIf nt
   have V1:=V.but hs.extBut nt
   dsimp only
   rw [arm_assign_Name]
   refine j3 (wpAny_bind (wpAny_standAt (joE (s:={ s with heap:=h',toks:=t' }) hx hdot R1 L1 Vx fun h2 t2 hs2 R2 X2 L2=>?_)))
   have T2:=T1.but hs2.extBut hC
   have L2':LocRel c σ h2 sc' cenv (jA x xs[i] ρ):=L2.congr fun y=>by
    rw [jV,jV]
    by_cases e:x=y
    ·rw [if_pos e,if_pos e]
    ·rw [if_neg e,if_neg e,hρ y fun q=>e q.symm]
   have it2:=it'.step X2 hIm (fun q=>hIf (by rw [List.mem_singleton.mp q];exact .head _)) jn7
   have V2:=V1.stepX X2
   refine hrest _ _ _ hturn σ { s with heap:=h2,toks:=t2 } _ _ R2 ⟨L2',V2⟩ fun σ3 h3 t3 fin R3 T3 hfin=>?_
   subst hfin
   have T3x:=T3.toX R2 (X:=[]) (by simp)
   refine ⟨hq,ih (i+1) S2 S' σ3 { s with heap:=h3,toks:=t3 } (jA x xs[i] ρ) (by lia) hlt R3 (T2.trans T3x (by simp)) (LocRel.stab _ _ _ _ _ R2 T3 L2') (fun y hy=>by rw [jV,if_neg fun e=>hy e.symm])
    (it2.step T3x hIm (by simp) hst) (fun q=>?_) hIf (V2.step R2 T3) hev fun σ' h' t'=>post σ' h' t'⟩
   rcases T3.new I q with q | q
   ·exact hIm q
   ·refine xE it2.alive.1 fun o e=>?_
    rw [e] at q;exact j0 q.symm
end
end Mine
end
section
open PySem PySem.W PyProof.Rows PySem.Calls
namespace Mine
section
variable {prog:Program} {w:World} {A:Around} {s:Shared} {R':Result→Shared→Prop}
theorem startL {x:Str} {px pos:Pos} {el iter:Expr} {ifs:List Expr} {scp:Scope} {it acc:Value} {cenv:Env} (h:kQ (model prog w) A (.compLoop (.ListComp el [⟨.Name x px,iter,ifs,0⟩] scp pos) 0 it acc cenv) R' s)
  (hi:∀ (Q:Value→Shared→Prop) E,Q it s→wpAny (model prog w) A (pyIter it) Q E s):kQ (model prog w) A (.compStart (.ListComp el [⟨.Name x px,iter,ifs,0⟩] scp pos) 0 it acc cenv) R' s:=by
 refine jI rfl ?_
 refine k7 ?_
 refine j3 (wpAny_askSetting ?_)
 split
 ·exact jE ⟨rfl,h⟩
 ·refine j3 (wpAny_rule ?_)
  exact j3 (wpAny_standAt (j3 (hi _ _ (jE ⟨rfl,h⟩))))
theorem startD {x:Str} {px pos:Pos} {ke el iter:Expr} {ifs:List Expr} {scp:Scope} {it acc:Value} {cenv:Env} (h:kQ (model prog w) A (.compLoop (.DictComp ke el [⟨.Name x px,iter,ifs,0⟩] scp pos) 0 it acc cenv) R' s)
  (hi:∀ (Q:Value→Shared→Prop) E,Q it s→wpAny (model prog w) A (pyIter it) Q E s):kQ (model prog w) A (.compStart (.DictComp ke el [⟨.Name x px,iter,ifs,0⟩] scp pos) 0 it acc cenv) R' s:=by
 refine jI rfl ?_
 refine k7 ?_
 refine j3 (wpAny_askSetting ?_)
 split
 ·exact jE ⟨rfl,h⟩
 ·refine j3 (wpAny_rule ?_)
  exact j3 (wpAny_standAt (j3 (hi _ _ (jE ⟨rfl,h⟩))))
theorem loopL {x:Str} {px pos:Pos} {el iter:Expr} {ifs:List Expr} {scp:Scope} {I D:Addr} {cenv:Env} :
  (model prog w).den (.compLoop (.ListComp el [⟨.Name x px,iter,ifs,0⟩] scp pos) 0 (.ref I) (.ref D) cenv)=(standAt iter.pos >>= fun _=>pyNext (.ref I) >>= fun o=>match o with
   | none=>pure (.done .next)
   | some v=>assign (.Name x px) cenv v >>= fun _=>(forIn ifs true fun c r=>if r=true then do let ok ← isTrue c cenv (eval c cenv);pure (ForInStep.yield ok) else pure (ForInStep.yield r)) >>= fun ok=>
     if ok=true then (eval el cenv >>= fun u=>call (.builtin "list.append") [.ref D,u] >>= fun _=>pure ()) >>= fun _=>again (.compLoop (.ListComp el [⟨.Name x px,iter,ifs,0⟩] scp pos) 0 (.ref I) (.ref D) cenv) else again (.compLoop (.ListComp el [⟨.Name x px,iter,ifs,0⟩] scp pos) 0 (.ref I) (.ref D) cenv)).onRaise (fun x=>do noteFrame x cenv;theTreesLotGoes x):=by
 show (compTurn _ _ _ _ _).onRaise _=_
 rw [compTurn_list]
 rfl
theorem loopD {x:Str} {px pos:Pos} {ke el iter:Expr} {ifs:List Expr} {scp:Scope} {I D:Addr} {cenv:Env} :
  (model prog w).den (.compLoop (.DictComp ke el [⟨.Name x px,iter,ifs,0⟩] scp pos) 0 (.ref I) (.ref D) cenv)=(standAt iter.pos >>= fun _=>pyNext (.ref I) >>= fun o=>match o with
   | none=>pure (.done .next)
   | some v=>assign (.Name x px) cenv v >>= fun _=>(forIn ifs true fun c r=>if r=true then do let ok ← isTrue c cenv (eval c cenv);pure (ForInStep.yield ok) else pure (ForInStep.yield r)) >>= fun ok=>
     if ok=true then (eval ke cenv >>= fun kv=>PySem.holding [kv] (eval el cenv) >>= fun vv=>standAt { ke.pos with endLine:=el.pos.endLine,endCol:=el.pos.endCol } >>= fun _=>PySem.holding [kv,vv] (dictSet D kv vv)) >>= fun _=>again (.compLoop (.DictComp ke el [⟨.Name x px,iter,ifs,0⟩] scp pos) 0 (.ref I) (.ref D) cenv) else again (.compLoop (.DictComp ke el [⟨.Name x px,iter,ifs,0⟩] scp pos) 0 (.ref I) (.ref D) cenv)).onRaise (fun x=>do noteFrame x cenv;theTreesLotGoes x):=by
 show (compTurn _ _ _ _ _).onRaise _=_
 rw [compTurn_dict]
 rfl
end
section
variable {c:Cx} {A:Around} {sc sc':Scope} {env cenv:Env} {ρ ρp ρ0 ρ1 ρ2:Loc} {n:Nat} {S S0 S1 S2 S3:St} {σ σ0 σ1 σ2:Sig} {h h0 h1 h2:Heap} {x:Str}
noncomputable def gZ (ifs:List Expr) (cenv:Env) (b:Bool):Sem Bool:=forIn ifs b fun c r=>if r=true then do let ok ← isTrue c cenv (eval c cenv);pure (ForInStep.yield ok) else pure (ForInStep.yield r)
theorem jfX {cenv:Env}:∀ {ifs:List Expr},RunC c A S (gZ ifs cenv false) S (fun _ _ b=>b=false) (fun σ h=>LocRel c σ h sc' cenv ρ)
 | []=>RunC.pure fun _ _ _=>rfl
 | e::r=>by
  unfold gZ
  rw [List.forIn_cons,if_neg Bool.false_ne_true]
  exact jfX (ifs:=r)
noncomputable def Ifs (c:Cx) (A:Around) (sc:Scope) (ifs:List Expr) (ρ:Loc) (S:St) (b:Bool) (S':St):Prop:=∀ cenv,RunC c A S (gZ ifs cenv true) S' (fun _ _ r=>r=b) (fun σ h=>LocRel c σ h sc cenv ρ)
theorem jwY:Ifs c A sc' [] ρ S true S:=fun _=>RunC.pure fun _ _ _=>rfl
theorem jtT {e:Expr} {r:List Expr} {b b1:Bool} (t:∀ cenv,Tst c A sc' cenv e ρ S S1 b1) (h:cond b1 (Ifs c A sc' r ρ S1 b S2) (b=false∧S2=S1)):Ifs c A sc' (e::r) ρ S b S2:=fun cenv=>by
 unfold gZ
 rw [List.forIn_cons,if_pos rfl]
 refine (RunC.bind (V:=fun _ _ o=>o=ForInStep.yield b1) LocRel.stab (RunC.bind LocRel.stab (t cenv) fun y=>RunC.by (p:=y=b1) (fun σ h _ i=>i.2) fun hy=>RunC.pure fun _ _ _=>by rw [hy]) fun o=>RunC.by (p:=o=ForInStep.yield b1) (fun σ h _ i=>i.2) fun ho=>?_)
 subst ho
 induction b1 using Bool.casesOn with
 | true=>exact (h cenv).pre fun σ h _ i=>i.1
 | false=>
  obtain ⟨rfl,rfl⟩:=h
  exact (jfX (ifs:=r)).pre fun σ h _ i=>i.1
theorem jn4 {ifs:List Expr} {emit:Sem Unit} {LC:Code} {k:Nat} {acc:Value} {b:Bool} (hi:Ifs c A sc' ifs ρ S b S1) (hp:cond b (RunC c A S1 emit S2 (fun _ _ _=>True) (fun σ h=>LocRel c σ h sc' cenv ρ∧VRel c σ h (.ref k) acc)) (S2=S1)) :
  RunC c A S (gZ ifs cenv true >>= fun ok=>if ok=true then emit >>= fun _=>again LC else again LC) S2 (fun _ _ fin=>fin = .again LC) (fun σ h=>LocRel c σ h sc' cenv ρ∧VRel c σ h (.ref k) acc):=by
 refine RunC.bind (LocRel.stab.and Stab.vrel) ((hi cenv).pre fun σ h _ i=>i.1) fun ok=>RunC.by (p:=ok=b) (fun σ h _ i=>i.2) fun hok=>?_
 subst hok
 induction ok using Bool.casesOn with
 | true=>
  have hp:RunC c A S1 emit S2 (fun _ _ _=>True) (fun σ h=>LocRel c σ h sc' cenv ρ∧VRel c σ h (.ref k) acc):=hp
  exact RunC.bind ((LocRel.stab.and Stab.vrel).and Stab.triv) (RunC.pre hp fun σ h _ i=>i.1) fun _=>RunC.pure fun _ _ _=>rfl
 | false=>
  have hp:S2=S1:=hp
  rw [hp]
  exact RunC.pure fun _ _ _=>rfl
theorem emitL {el:Expr} {k:Nat} {D:Addr} {u:AV} {ys:List AV} (hs:Ev c A sc' cenv el ρ S u S1) (hS:S1[k]? = some (.list ys)) (hl:ys.length≤jC) :
  RunC c A S (eval el cenv >>= fun u=>call (.builtin "list.append") [.ref D,u] >>= fun _=>pure ()) (S1.set k (.list (ys++[u]))) (fun _ _ (_:Unit)=>True) (fun σ h=>LocRel c σ h sc' cenv ρ∧VRel c σ h (.ref k) (.ref D)):=
 RunC.bind (LocRel.stab.and Stab.vrel) (hs.pre fun σ h _ i=>i.1) fun w=>
  RunC.bind (V:=fun _ _ _=>True) ((LocRel.stab.and Stab.vrel).and Stab.vrel) (Run.lift (((jeV hS hl).pre fun σ h _ i=>⟨i.1.2,i.2⟩).post fun _ _ _ _ _=>trivial)) fun _=>RunC.pure fun _ _ _=>trivial
theorem jkQ (r:Room A n) {k fl ep:Nat} {es:List (AV×AV)} {i v:AV} {d:Addr} {iv vv:Value} {ao:AO} (hS:S[k]? = some (.dict fl es ep)) (hp:qM fl es ep i v=some ao) :
  Run c A S (dictSet d iv vv) (S.set k ao) (fun _ _ _=>True) (fun σ h=>VRel c σ h (.ref k) (.ref d)∧VRel c σ h i iv∧VRel c σ h v vv):=by
 intro σ s Q E R V q
 refine kE (R.dict V.1 hS) fun d' ds e D=>?_
 obtain rfl:=PySem.Value.ref.inj e
 have hu:A.units+12 < cLine:=by have:=r.units;lia
 exact nM R D V.2.1 V.2.2 hu hp fun h' t' R' T'=>q σ h' t' () R' T' trivial
theorem emitD (r:Room A n) {ke el:Expr} {k fl ep:Nat} {es:List (AV×AV)} {ao:AO} {kv u:AV} {D:Addr} {p:Pos} (hk:Ev c A sc' cenv ke ρ S kv S1) (hs:Ev c A sc' cenv el ρ S1 u S2) (hS:S2[k]? = some (.dict fl es ep)) (hp:qM fl es ep kv u=some ao) :
  RunC c A S (eval ke cenv >>= fun kv=>PySem.holding [kv] (eval el cenv) >>= fun vv=>standAt p >>= fun _=>PySem.holding [kv,vv] (dictSet D kv vv)) (S2.set k ao) (fun _ _ (_:Unit)=>True) (fun σ h=>LocRel c σ h sc' cenv ρ∧VRel c σ h (.ref k) (.ref D)):=
 RunC.bind (LocRel.stab.and Stab.vrel) (hk.pre fun σ h _ i=>i.1) fun w=>RunC.bind ((LocRel.stab.and Stab.vrel).and Stab.vrel) (RunC.holding (hs.pre fun σ h _ i=>i.1.1)) fun w2=>
  RunC.at (RunC.holding (Run.lift ((jkQ r hS hp).pre fun σ h _ i=>⟨i.1.1.2,i.1.2,i.2⟩)))
theorem jbV {names:List (Str×NameKind)} (nd:(names.map (·.1)).Nodup) {p:Str×NameKind} (hp:p∈names):names.lookup p.1=some p.2:=by
 induction names with
 | nil=>cases hp
 | cons q r ih=>
  obtain ⟨z,k⟩:=q
  rw [List.map_cons,List.nodup_cons] at nd
  rw [List.lookup_cons]
  rcases List.mem_cons.mp hp with e | hp
  ·subst e;simp
  ·have:(p.1==z)=false:=by
    rw [beq_eq_false_iff_ne]
    rintro e
    exact nd.1 (List.mem_map.mpr ⟨p,hp,e⟩)
   rw [this]
   exact ih nd.2 hp
theorem jqW {I:Addr} {xs:List AV} {g:Option Nat} {i:Nat} (it:ItAt c σ h S I xs g i) (hg:g.isSome=true) {s:Shared} (hs:s.heap=h) {Q:Value→Shared→Prop} {E:Value→Shared→Prop} (q:Q (.ref I) s):wpAny (model c.prog c.w) A (pyIter (.ref I)) Q E s:=by
 subst hs
 induction it using ItAt.casesOn with
 | tup=>exact Bool.noConfusion hg
 | bytes=>exact Bool.noConfusion hg
 | list k l xs i _ _ a=>exact wpAny_pyIter_listiter a q
 | dict k d fl es ep i _ _ a=>exact wpAny_pyIter_keyiter a q
 | range=>exact Bool.noConfusion hg
theorem jlL (Y:kS c) (r:Room A n) {e iter:Expr} {ifs:List Expr} {px pos:Pos} {newAcc:Sem Value} {ob:Obj} {ao:AO} {emit:Env→Addr→Sem Unit} {a:AV} {xs:List AV} {g:Option Nat}
  (K:gD sc sc' x) (hset:∀ v,foldedSetIterable iter env v=pure v) (hcl:clausesOf e=[⟨.Name x px,iter,ifs,0⟩])
  (h1:Ev c A sc env iter ρ S a S1)
  (hnew:∀ (s:Shared) (Q:Value→Shared→Prop) E,Q (.ref s.heap.objs.size) { s with heap:=s.heap.push ob }→wpAny (model c.prog c.w) A newAcc Q E s) (hfreed:ob.isFreed=false)
  (hrel:∀ σ' (h':Heap) D,h'.get? D=some ob→ORel c σ' h' ao (D,none))
  (hstart:∀ it acc cenv (R':Result→Shared→Prop) (s:Shared),kQ (model c.prog c.w) A (.compLoop e 0 it acc cenv) R' s→(∀ (Q:Value→Shared→Prop) E,Q it s→wpAny (model c.prog c.w) A (pyIter it) Q E s)→kQ (model c.prog c.w) A (.compStart e 0 it acc cenv) R' s)
  (hloop:∀ I D cenv,∃ hd,(model c.prog c.w).den (.compLoop e 0 (.ref I) (.ref D) cenv)=(standAt iter.pos >>= fun _=>pyNext (.ref I) >>= fun o=>match o with
   | none=>pure (.done .next)
   | some v=>assign (.Name x px) cenv v >>= fun _=>gZ ifs cenv true >>= fun ok=>if ok=true then emit cenv D >>= fun _=>again (.compLoop e 0 (.ref I) (.ref D) cenv) else again (.compLoop e 0 (.ref I) (.ref D) cenv)).onRaise hd)
  (hfr:∀ it acc cenv,A.under (.compLoop e 0 it acc cenv)=A)
  (e2:itemsOf S1 a=some (xs,g)) (hg:g.isSome=true) (e3:Turns (fun v Sa Sb=>∃ b Sc,Ifs c A sc' ifs (jA x v ρ) Sa b Sc∧cond b (∀ cenv D,RunC c A Sc (emit cenv D) Sb (fun _ _ _=>True) (fun σ h=>LocRel c σ h sc' cenv (jA x v ρ)∧VRel c σ h (.ref S1.length) (.ref D))) (Sb=Sc)) g xs (S1++[ao]) S2)
  {use:Option (Value→Sem Unit)} {s:Shared} {Q:Value→Shared→Prop} {E:Value→Shared→Prop} (R:Rep c σ S s.heap) (L:LocRel c σ s.heap sc env ρ)
  (q:∀ σ' h' t' C D,Rep c σ' S2 h'→Step c σ s.heap σ' h'→s.heap.get? C=none→C ∉ jZ σ'→c.H0.get? C=none→(∃ m,h'.Ns C m)→VRel c σ' h' (.ref S1.length) (.ref D)→mL (model c.prog c.w) A E use Q (.ref D) C (.ok .next) { s with heap:=h',toks:=t' }) :
  wpC (model c.prog c.w) A (comprehension e sc' env pos newAcc false (eval iter env) use) Q E s:=by
 have nocell:∀ p∈sc'.names,p.2≠.cell:=fun p hp e=>by
  rcases K.all p hp with q | q | q
  ·rw [e] at q;exact PySem.NameKind.noConfusion q.1
  ·rw [e] at q;exact PySem.NameKind.noConfusion q.1
  ·rw [e] at q;exact PySem.NameKind.noConfusion q
 refine jjU hcl hset K.kind (fun p hp hl=>by rw [jbV K.nd hp,hl]) (cl:=jJ env.cells sc'.names []) ?_
 refine h1 σ s _ E R L fun σ1 h1' t1 v R1 T1 V1=>?_
 have L1:=LocRel.stab _ _ _ _ _ R T1 L
 refine ⟨(jmA (C:=h1'.objs.size) (h1:=h1'.push { cls:=.type "dict",data:=.dict #[]}) L1 K R1 (Heap.get?_none_of_le (Nat.le_refl _)) (fun b o e=>Heap.get?_push_of_some _ e) ⟨_,#[],0,Heap.get?_push_size _ rfl,rfl,by intro e he;simp at he,fun name=>rfl⟩).1,?_⟩
 refine je9 (s:={ s with heap:=h1',toks:=t1 }) Y e2 R1 V1 fun hI I kI nI it=>?_
 obtain ⟨RI,TI⟩:=R1.ext kI
 refine hnew _ _ _ ?_
 have hD:(hI.push ob).get? hI.objs.size=some ob:=Heap.get?_push_size _ hfreed
 have RD:Rep c (σ1++[(hI.objs.size,none)]) (S1++[ao]) (hI.push ob):=RI.alloc (hrel _ _ _ hD)
 have TD:Step c σ1 hI (σ1++[(hI.objs.size,none)]) (hI.push ob):=.alloc ob
 refine wpAny_newFunctionEnv nocell (by intro y hy;simp at hy) (fun h' hns hsb=>?_) K.kind
 dsimp only at hns hsb ⊢
 have hsb':Heap.ExtBut (hI.push ob).objs.size (hI.push ob) h':=fun b o hb e=>hsb.extBut b o hb (Heap.get?_push_of_some _ e)
 have hCnew:(hI.push ob).get? (hI.push ob).objs.size=none:=Heap.get?_none_of_le (Nat.le_refl _)
 have kC:∀ b o,(hI.push ob).get? b=some o→h'.get? b=some o:=tX hsb' hCnew
 obtain ⟨RC,TC⟩:=RD.ext kC
 have T0:Step c σ1 h1' (σ1++[(hI.objs.size,none)]) h':=TI.trans (TD.trans TC)
 have LD:LocRel c (σ1++[(hI.objs.size,none)]) (hI.push ob) sc env ρ:=LocRel.stab _ _ _ _ _ RI TD (LocRel.stab _ _ _ _ _ R1 TI L1)
 have hns':h'.Ns (hI.push ob).objs.size fun _=>none:=by
  refine jhM hns fun o es ep e d k f=>?_
  exact ⟨o,es,ep,e,d,k,fun name=>by rw [f name];rfl⟩
 have LC:=(jmA LD K RD hCnew kC hns').2
 have h1C:h1'.get? (hI.push ob).objs.size=none:=by
  cases e:h1'.get? (hI.push ob).objs.size with
  | none=>rfl
  | some o=>rw [Heap.get?_push_of_some ob (kI _ _ e)] at hCnew;exact j0 hCnew.symm
 have hI0:c.H0.get? I=none:=by
  cases e:c.H0.get? I with
  | none=>rfl
  | some o=>rw [R1.keep _ _ e] at nI;exact j0 nI.symm
 have itC:ItAt c (σ1++[(hI.objs.size,none)]) h' (S1++[ao]) I xs g 0:=by
  have hIm:I ∉ jZ σ1:=fun q=>by
   refine xEA (R1.live q) fun o e _=>?_
   rw [nI] at e;exact j0 e
  refine it.step ((TD.trans TC).toX RI (X:=[]) (by simp)) hIm (by simp) ?_
  unfold stays
  split
  ·rfl
  ·rename_i k
   refine decide_eq_true ?_
   have hk:k < S1.length:=by
    cases it with
    | list k l xs i hσ hS a=>exact (List.getElem?_eq_some_iff.mp hS).1
    | dict k d fl es ep i hσ hS a=>exact (List.getElem?_eq_some_iff.mp hS).1
   rw [List.getElem?_append_left hk]
 have hIne:I≠hI.objs.size:=fun e=>by
  refine xE it.alive.1 fun o e'=>?_
  rw [e] at e'
  exact Nat.lt_irrefl _ (Heap.lt_size e')
 have hIC:I≠(hI.push ob).objs.size:=fun e=>by
  refine xE it.alive.1 fun o e'=>?_
  have:=Heap.lt_size e'
  rw [e,Heap.size_push] at this
  exact Nat.lt_irrefl _ (Nat.lt_of_succ_lt this)
 have hImC:I ∉ jZ (σ1++[(hI.objs.size,none)]):=fun q=>by
  rw [kN,List.mem_append] at q
  rcases q with q | q
  ·refine xEA (R1.live q) fun o e _=>?_
   rw [show h1'.get? I=none from nI] at e;exact j0 e
  ·simp [jZ] at q
   exact hIne q
 have hIf:I ∉ fa (compEnvC sc' (jJ env.cells sc'.names []) (hI.push ob).objs.size env):=fun q=>by
  rcases List.mem_cons.mp q with q | q
  ·exact hIC q
  ·refine xEA (List.mem_map.mp q) fun q0q hm e=>?_;obtain ⟨y,b⟩:=q0q
   have hb:b∈fa env:=by
    rcases qR (fun p hp hf=>by
     rcases K.all p hp with q | q | q
     ·rw [hf] at q;exact PySem.NameKind.noConfusion q.1
     ·refine kE (L.cell p.1 q.2) fun a v e _=>?_
      exact ⟨a,e⟩
     ·rw [hf] at q;exact PySem.NameKind.noConfusion q) hm with q2 | q2
    ·cases q2
    ·exact .tail _ (List.mem_map.mpr ⟨(y,b),mem_of_lookup q2.2,rfl⟩)
   refine xE (L1.live b hb) fun o e'=>?_
   dsimp only at e
   rw [e,show h1'.get? I=none from nI] at e';exact j0 e'
 have VD:VRel c (σ1++[(hI.objs.size,none)]) h' (.ref S1.length) (.ref hI.objs.size):=.ref _ _ none (by rw [R1.len];exact vP)
 refine hstart _ _ _ _ _ ?_ fun Q' E' q'=>jqW itC hg rfl q'
 refine xE (hloop I hI.objs.size (compEnvC sc' (jJ env.cells sc'.names []) (hI.push ob).objs.size env)) fun hd hden=>?_
 refine jrB (σ1:=σ1) (h1:=h1') (ρ:=ρ) r (sc':=sc') (cenv:=compEnvC sc' (jJ env.cells sc'.names []) (hI.push ob).objs.size env) rfl rfl (hfr _ _ _) K.own K.dot hden (fun v Sa Sb ⟨b,Sc,q1,q2⟩=>jn4 q1 (by induction b using Bool.casesOn<;>first | exact q2 _ _ | exact q2)) nI hI0 h1C xs.length 0 _ S2 _ _ _ rfl (Nat.zero_le _) RC (T0.toX R1 (by simp)) LC
  (fun y hy=>by rw [zJ,if_neg hy]) itC hImC hIf VD e3 fun σ' h2 t2 R2 X2 ⟨ρ',L2⟩ V2=>?_
 have T2:Step c σ1 h1' σ' h2:=⟨X2.grow,X2.new,fun b o e hb=>X2.ext b o e hb (by simp),X2.sq⟩
 refine q σ' h2 t2 _ _ R2 (T1.trans T2) ?_ (L2.apart _ (.head _)) (L2.above _ (.head _)) (by refine xEA L2.ns fun m hn _=>?_;exact ⟨m,hn⟩) V2
 cases e:s.heap.get? (hI.push ob).objs.size with
 | none=>exact e
 | some o=>
  exfalso
  by_cases hm:(hI.push ob).objs.size∈jZ σ
  ·have:(hI.push ob).objs.size∈jZ σ1:=by
    refine xE T1.grow fun m hm'=>?_
    rw [hm',kN];exact List.mem_append_left _ hm
   refine xEA (R1.live this) fun o' e' _=>?_
   rw [h1C] at e';exact j0 e'
  ·have:=T1.ext _ _ e hm
   rw [h1C] at this;exact j0 this
theorem Step.but {I:Addr} (R:Rep c σ S h) (T:Step c σ h σ1 h1) (hk:Heap.ExtBut I h1 h2) (hI:h.get? I=none):Step c σ h σ1 h2:=by
 have X:=(T.toX R (X:=[]) (by simp)).but hk hI
 exact ⟨X.grow,X.new,fun b o e hb=>X.ext b o e hb (by simp),X.sq⟩
theorem juR {σ':Sig} {h':Heap} {D:Addr} (e:h'.get? D=some { cls:=.type "list",data:=.seq #[]}):ORel c σ' h' (.list []) (D,none):=.list [] D [] ⟨_,0,e,rfl,rfl,rfl⟩ .nil
theorem jrS {σ':Sig} {h':Heap} {D:Addr} (e:h'.get? D=some { cls:=.type "dict",data:=.dict #[]}):ORel c σ' h' (.dict 0 [] 0) (D,none):=.dict 0 [] 0 D [] e .nil List.nodup_nil (by decide)
noncomputable def jpI (c:Cx) (A:Around) (sc:Scope) (ifs:List Expr) (el:Expr) (k:Nat) (x:Str) (ρ:Loc) (v:AV) (S S':St):Prop:=∃ b Sc,Ifs c A sc ifs (jA x v ρ) S b Sc∧
 cond b (∃ u S1 ys,(∀ cenv,Ev c A sc cenv el (jA x v ρ) Sc u S1)∧S1[k]? = some (.list ys)∧ys.length≤jC∧S'=S1.set k (.list (ys++[u]))) (S'=Sc)
noncomputable def TurnD (c:Cx) (A:Around) (sc:Scope) (ifs:List Expr) (ke el:Expr) (k:Nat) (x:Str) (ρ:Loc) (v:AV) (S S':St):Prop:=∃ b Sc,Ifs c A sc ifs (jA x v ρ) S b Sc∧
 cond b (∃ w S1 u S2 fl es ep ao,(∀ cenv,Ev c A sc cenv ke (jA x v ρ) Sc w S1)∧(∀ cenv,Ev c A sc cenv el (jA x v ρ) S1 u S2)∧S2[k]? = some (.dict fl es ep)∧qM fl es ep w u=some ao∧S'=S2.set k ao) (S'=Sc)
theorem Turns.mono {p q:AV→St→St→Prop} {g:Option Nat} (h:∀ v S S',p v S S'→q v S S') {xs:List AV} {S S':St} (t:Turns p g xs S S'):Turns q g xs S S':=by
 induction t with
 | nil S=>exact .nil S
 | cons v vs S S2 S' a b _ ih=>exact .cons v vs S S2 S' (h _ _ _ a) b ih
theorem m5 (Y:kS c) (r:Room A n) {el iter:Expr} {ifs:List Expr} {px pos pos':Pos} {a:AV} {xs:List AV} {g:Option Nat}
  (K:gD sc sc' x) (hset:∀ v,foldedSetIterable iter env v=pure v) (h1:Ev c A sc env iter ρ S a S1) (e2:itemsOf S1 a=some (xs,g)) (hg:g.isSome=true) (e3:Turns (jpI c A sc' ifs el S1.length x ρ) g xs (S1++[.list []]) S2)
  {use:Option (Value→Sem Unit)} {s:Shared} {Q:Value→Shared→Prop} {E:Value→Shared→Prop} (R:Rep c σ S s.heap) (L:LocRel c σ s.heap sc env ρ)
  (q:∀ σ' h' t' C D,Rep c σ' S2 h'→Step c σ s.heap σ' h'→s.heap.get? C=none→C ∉ jZ σ'→c.H0.get? C=none→(∃ m,h'.Ns C m)→VRel c σ' h' (.ref S1.length) (.ref D)→mL (model c.prog c.w) A E use Q (.ref D) C (.ok .next) { s with heap:=h',toks:=t' }) :
  wpC (model c.prog c.w) A (comprehension (.ListComp el [⟨.Name x px,iter,ifs,0⟩] sc' pos) sc' env pos' (newList []) false (eval iter env) use) Q E s:=
 jlL (ob:={ cls:=.type "list",data:=.seq #[]}) (ao:=.list []) (emit:=fun cenv D=>eval el cenv >>= fun u=>call (.builtin "list.append") [.ref D,u] >>= fun _=>pure ()) Y r K hset rfl h1
  (fun s Q E hq=>wpAny_newObj_type hq (Nat.zero_le _)) rfl (fun σ' h' D e=>juR e) (fun it acc cenv R' s=>startL) (fun I D cenv=>⟨_,loopL⟩) (fun it acc cenv=>Around.under_of_weight rfl) e2 hg
  (e3.mono fun v Sa Sb t=>kE t fun b Sc q1 q2=>⟨b,Sc,q1,by
   induction b using Bool.casesOn
   ·exact q2
   ·exact fun cenv D=>jhM q2 fun u S1 ys g1 g2 g3 g4=>g4▸emitL (g1 cenv) g2 g3⟩) R L q
theorem jiW (Y:kS c) (r:Room A n) {ke el iter:Expr} {ifs:List Expr} {px pos pos':Pos} {a:AV} {xs:List AV} {g:Option Nat}
  (K:gD sc sc' x) (hset:∀ v,foldedSetIterable iter env v=pure v) (h1:Ev c A sc env iter ρ S a S1) (e2:itemsOf S1 a=some (xs,g)) (hg:g.isSome=true) (e3:Turns (TurnD c A sc' ifs ke el S1.length x ρ) g xs (S1++[.dict 0 [] 0]) S2)
  {use:Option (Value→Sem Unit)} {s:Shared} {Q:Value→Shared→Prop} {E:Value→Shared→Prop} (R:Rep c σ S s.heap) (L:LocRel c σ s.heap sc env ρ)
  (q:∀ σ' h' t' C D,Rep c σ' S2 h'→Step c σ s.heap σ' h'→s.heap.get? C=none→C ∉ jZ σ'→c.H0.get? C=none→(∃ m,h'.Ns C m)→VRel c σ' h' (.ref S1.length) (.ref D)→mL (model c.prog c.w) A E use Q (.ref D) C (.ok .next) { s with heap:=h',toks:=t' }) :
  wpC (model c.prog c.w) A (comprehension (.DictComp ke el [⟨.Name x px,iter,ifs,0⟩] sc' pos) sc' env pos' newDict false (eval iter env) use) Q E s:=
 jlL (ob:={ cls:=.type "dict",data:=.dict #[]}) (ao:=.dict 0 [] 0) (emit:=fun cenv D=>eval ke cenv >>= fun kv=>PySem.holding [kv] (eval el cenv) >>= fun vv=>standAt { ke.pos with endLine:=el.pos.endLine,endCol:=el.pos.endCol } >>= fun _=>PySem.holding [kv,vv] (dictSet D kv vv)) Y r K hset rfl h1
  (fun s Q E hq=>wpAny_newObj_type hq (Nat.zero_le _)) rfl (fun σ' h' D e=>jrS e) (fun it acc cenv R' s=>startD) (fun I D cenv=>⟨_,loopD⟩) (fun it acc cenv=>Around.under_of_weight rfl) e2 hg
  (e3.mono fun v Sa Sb t=>kE t fun b Sc q1 q2=>⟨b,Sc,q1,by
   induction b using Bool.casesOn
   ·exact q2
   ·exact fun cenv D=>jfE q2 fun w S1 u S2 fl es ep ao g1 g2 g3 g4 g5=>g5▸emitD r (g1 cenv) (g2 cenv) g3 g4⟩) R L q
theorem jb9 (Y:kS c) (r:Room A n) {el iter:Expr} {ifs:List Expr} {px pos:Pos} {a:AV} {xs:List AV} {g:Option Nat}
  (K:gD sc sc' x) (hset:∀ v,foldedSetIterable iter env v=pure v) (h1:Ev c A sc env iter ρ S a S1) (e2:itemsOf S1 a=some (xs,g)) (hg:g.isSome=true) (e3:Turns (jpI c A sc' ifs el S1.length x ρ) g xs (S1++[.list []]) S2) :
  Ev c A sc env (.ListComp el [⟨.Name x px,iter,ifs,0⟩] sc' pos) ρ S (.ref S1.length) S2:=fun σ s Q E R L q=>by
 rw [arm_eval_ListComp]
 exact m5 (use:=none) Y r K hset h1 e2 hg e3 R L fun σ' h' t' C D R' T' hC hCm hC0 ⟨m,hn⟩ V=>⟨m,hn,fun h'' hs=>q σ' h'' t' _ (R'.but hs.extBut hCm hC0 (zH hn)) (T'.but R hs.extBut hC) (V.but hs.extBut (zH hn))⟩
theorem jk5 (Y:kS c) (r:Room A n) {ke el iter:Expr} {ifs:List Expr} {px pos:Pos} {a:AV} {xs:List AV} {g:Option Nat}
  (K:gD sc sc' x) (hset:∀ v,foldedSetIterable iter env v=pure v) (h1:Ev c A sc env iter ρ S a S1) (e2:itemsOf S1 a=some (xs,g)) (hg:g.isSome=true) (e3:Turns (TurnD c A sc' ifs ke el S1.length x ρ) g xs (S1++[.dict 0 [] 0]) S2) :
  Ev c A sc env (.DictComp ke el [⟨.Name x px,iter,ifs,0⟩] sc' pos) ρ S (.ref S1.length) S2:=fun σ s Q E R L q=>by
 rw [arm_eval_DictComp]
 exact jiW (use:=none) Y r K hset h1 e2 hg e3 R L fun σ' h' t' C D R' T' hC hCm hC0 ⟨m,hn⟩ V=>⟨m,hn,fun h'' hs=>q σ' h'' t' _ (R'.but hs.extBut hCm hC0 (zH hn)) (T'.but R hs.extBut hC) (V.but hs.extBut (zH hn))⟩
end
end Mine
end
section
open PySem PySem.W PyProof.Rows PySem.Calls
namespace Mine
theorem yQ {α β:Type} [DecidableEq α]:∀ {l:List (α×β)} {y:α} {v:β},(l.map (·.1)).Nodup→(y,v)∈l→j6 y l=some v
 | (z,w)::r,y,v,nd,hm=>by
  rw [List.map_cons,List.nodup_cons] at nd
  rw [uP]
  rcases List.mem_cons.mp hm with e | hm
  ·(refine xA (Prod.mk.inj e) fun e16q e17q=>?_;obtain rfl:=e16q.symm;obtain rfl:=e17q.symm);rw [if_pos rfl]
  ·rw [if_neg,yQ nd.2 hm]
   rintro rfl
   exact nd.1 (List.mem_map.mpr ⟨_,hm,rfl⟩)
theorem uA {α β:Type} [DecidableEq α]:∀ {l:List (α×β)} {y:α},y ∉ l.map (·.1)→j6 y l=none
 | [],_,_=>rfl
 | (z,w)::r,y,h=>by
  rw [uP,if_neg,uA fun q=>h (.tail _ q)]
  rintro rfl
  exact h (.head _)
theorem gK {y:Str}:∀ {xs:List Str} {vs:List AV} {ρ:Loc},xs.Nodup→xs.length=vs.length→j6 y (putAll xs vs ρ)=match j6 y (xs.zip vs) with | some v=>some v | none=>j6 y ρ
 | [],[],_,_,_=>rfl
 | x::xs,v::vs,ρ,nd,hl=>by
  rw [List.nodup_cons] at nd
  unfold putAll
  rw [gK nd.2 (by simpa using hl),List.zip_cons_cons,uP]
  by_cases e:x=y
  ·subst e
   rw [if_pos rfl,uA]
   ·rw [jV,if_pos rfl]
   ·rw [List.map_fst_zip (by simp at hl;lia)]
    exact nd.1
  ·rw [if_neg e]
   split
   ·rfl
   ·rw [jV,if_neg e]
 | [],_::_,_,_,hl=>by simp at hl
 | _::_,[],_,_,hl=>by simp at hl
theorem jfV {α:Type} {l:List α} (nd:l.Nodup):l.reverse.Nodup:=by
 rw [List.nodup_iff_pairwise_ne] at nd ⊢
 exact List.pairwise_reverse.mpr (nd.imp fun h=>h.symm)
theorem jdA {y:Str} {xs:List Str} {vs:List AV} {ρ:Loc} (nd:xs.Nodup) (hl:xs.length=vs.length):j6 y (putAll xs.reverse vs.reverse ρ)=j6 y (putAll xs vs ρ):=by
 rw [gK nd hl,gK (jfV nd) (by simp [hl])]
 have e:j6 y (xs.reverse.zip vs.reverse)=j6 y (xs.zip vs):=by
  have er:xs.reverse.zip vs.reverse=(xs.zip vs).reverse:=(List.reverse_zipWith hl).symm
  rw [er]
  have hk:((xs.zip vs).map (·.1)).Nodup:=by
   rw [List.map_fst_zip (by lia)];exact nd
  by_cases hm:y∈(xs.zip vs).map (·.1)
  ·refine xEA (List.mem_map.mp hm) fun q0q hp e=>?_;obtain ⟨z,v⟩:=q0q
   dsimp only at e
   subst e
   rw [yQ hk hp,yQ (by rw [List.map_reverse];exact jfV hk) (List.mem_reverse.mpr hp)]
  ·rw [uA hm,uA]
   rw [List.map_reverse,List.mem_reverse]
   exact hm
 rw [e]
section
variable {c:Cx} {A:Around} {sc:Scope} {env:Env} {ρ ρ1 ρ2:Loc} {n m:Nat} {S S1 S2 S3:St} {σ σ1 σ2:Sig} {h h1 h2:Heap}
structure Fit (c:Cx):Prop where
 base:uD c
 attrs:mX c
 free:Free c
 sys:kS c
inductive Fl where
 | next | ret (v:AV)
noncomputable def FlR (c:Cx) (σ:Sig) (h:Heap):Fl→Flow→Prop
 | .next,.next=>True
 | .ret v,.ret w=>VRel c σ h v w
 | _,_=>False
noncomputable def vN:Expr→Bool
 | .ListComp ..=>false
 | .SetComp ..=>false
 | .DictComp ..=>false
 | _=>true
theorem qV {e:Expr} {t:Option Expr} {l:Nat} {env:Env} (h:vN e=true):swapsWith e t l env=pure false:=by
 induction e using PySem.Expr.casesOn<;>first | rfl | exact Bool.noConfusion h
noncomputable def plainT:Expr→Bool
 | .Attribute _ _ _=>true
 | .Subscript _ _ _=>true
 | _=>false
theorem jbB {e t:Expr} {l:Nat} {env:Env} (h:plainT t=true):swapsWith e (some t) l env=pure false:=by
 induction e using PySem.Expr.casesOn<;>first | exact qV rfl | (induction t using PySem.Expr.casesOn<;>first | exact Bool.noConfusion h | rfl)
theorem uV {t e:Expr} {p:Pos} {v:AV} (he:Ev c A sc env e ρ S v S1) (hs:swapsWith e (some t) p.line env=pure false) (hsw:swappedStores [t] e env=pure none) (hst:notStar t=true)
  (ha:∀ w,RunS c A sc env (assign t env w) ρ S1 ρ1 S2 (fun _ _ _=>True) (fun σ h=>VRel c σ h v w)):RunS c A sc env (exec (.Assign [t] e p) env) ρ S ρ1 S2 (fun σ h g=>FlR c σ h .next g) (fun _ _=>True):=by
 rw [arm_exec_Assign]
 refine RunS.at ?_
 have e2:swapsWithSole [t] e p.line env=pure false:=hs
 rw [e2]
 refine RunS.bind (V:=fun σ h w=>VRel c σ h v w) StabX.triv (RunC.s (RunC.pre he fun σ h _ i=>i.1)) fun w=>?_
 rw [hsw]
 have e3:(assignEach [t] env).map (·.2)=[assign t env]:=by
  induction t using PySem.Expr.casesOn<;>first | rfl | exact Bool.noConfusion hst
 show RunS c A sc env (assignStores env w none ((assignEach [t] env).map (·.2))) ρ S1 ρ1 S2 _ _
 rw [e3]
 show RunS c A sc env (assign t env w >>= fun _=>pure Flow.next) ρ S1 ρ1 S2 _ _
 exact RunS.bind (V:=fun _ _ _=>True) (StabX.triv.and StabX.vrel) ((ha w).pre fun σ h _ i=>i.2) fun _=>RunS.pure fun _ _ _=>trivial
theorem jkB (W:Fit c) {o:Expr} {a:Str} {q:Pos} {v u:AV} {w:Value} (ho:Ev c A sc env o ρ S u S1) (ha:a∈attrNames) (e2:y6 S1 u a v=some S2) :
  RunS c A sc env (assign (.Attribute o a q) env w) ρ S ρ S2 (fun _ _ _=>True) (fun σ h=>VRel c σ h v w):=by
 rw [arm_assign_Attribute]
 exact RunC.s (RunC.bind (LocRel.stab.and Stab.vrel) (RunC.holding (ho.pre fun σ h _ i=>i.1)) fun ov=>RunC.at (RunC.bind (V:=fun _ _ _=>True) ((LocRel.stab.and Stab.vrel).and Stab.vrel) (RunC.holding (Run.lift ((jm1 W.base W.attrs ha e2).pre fun σ h _ i=>⟨i.2,i.1.2⟩))) fun _=>RunC.release fun _ _ _=>trivial))
theorem jk2 (r:Room A n) {o i v:AV} {x iv vv:Value} (h:qW S o i v=some S1):Run c A S (setItem x iv vv) S1 (fun _ _ _=>True) (fun σ h=>VRel c σ h o x∧VRel c σ h i iv∧VRel c σ h v vv):=by
 exact bO h fun k ek h=>bO h fun d ed h=>mO h fun ao hp e=>y0 ek▸e▸jiC r (zG ed) hp
theorem jjD (r:Room A n) {o i:AV} {x iv:Value} (h:xV S o i=some S1):Run c A S (delItem x iv) S1 (fun _ _ _=>True) (fun σ h=>VRel c σ h o x∧VRel c σ h i iv):=by
 refine bO h fun k ek h=>bO h fun d ed hD=>?_
 obtain rfl:=y0 ek
 refine xAAA (jD hD).1 fun h1 h2 h3 h4=>?_
 obtain rfl:=Option.some.inj (jD hD).2
 exact jhI r (zG ed) h1 h2 h3 (by unfold jC at h4;lia)
theorem jo5 (r:Room A n) {o i:Expr} {q:Pos} {v u k:AV} {w:Value} (ho:Ev c A sc env o ρ S u S1) (hi:Ev c A sc env i ρ S1 k S2) (e3:qW S2 u k v=some S3) :
  RunS c A sc env (assign (.Subscript o i q) env w) ρ S ρ S3 (fun _ _ _=>True) (fun σ h=>VRel c σ h v w):=by
 rw [arm_assign_Subscript]
 exact RunC.s (RunC.bind (LocRel.stab.and Stab.vrel) (RunC.holding (ho.pre fun σ h _ i=>i.1)) fun ov=>RunC.bind ((LocRel.stab.and Stab.vrel).and Stab.vrel) (RunC.holding (hi.pre fun σ h _ i=>i.1.1)) fun iv=>RunC.at
  (RunC.bind (V:=fun _ _ _=>True) (((LocRel.stab.and Stab.vrel).and Stab.vrel).and Stab.vrel) (RunC.holding (Run.lift ((jk2 r e3).pre fun σ h _ i=>⟨i.1.2,i.2,i.1.1.2⟩))) fun _=>RunC.release fun _ _ _=>trivial))
theorem jmS (r:Room A n) {o i:Expr} {q p:Pos} {u k:AV} (ho:Ev c A sc env o ρ S u S1) (hi:Ev c A sc env i ρ S1 k S2) (e3:xV S2 u k=some S3) :
  RunS c A sc env (exec (.Delete [.Subscript o i q] p) env) ρ S ρ S3 (fun σ h g=>FlR c σ h .next g) (fun _ _=>True):=by
 rw [arm_exec_Delete]
 refine RunS.at (RunC.s ?_)
 show RunC c A S (((do
   let ov ← eval o env
   let iv ← holding [ov] (eval i env)
   standAt q
   holding [ov,iv] (delItem ov iv)
   PySem.release [ov,iv] []) >>= fun _=>pure ()) >>= fun _=>pure Flow.next) S3 _ _
 exact RunC.bind (V:=fun _ _ _=>True) (LocRel.stab.and Stab.triv) (RunC.bind (V:=fun _ _ _=>True) (LocRel.stab.and Stab.triv) (RunC.bind (LocRel.stab.and Stab.triv) (ho.pre fun σ h _ i=>i.1) fun ov=>
  RunC.bind ((LocRel.stab.and Stab.triv).and Stab.vrel) (RunC.holding (hi.pre fun σ h _ i=>i.1.1)) fun iv=>RunC.at
  (RunC.bind (V:=fun _ _ _=>True) (((LocRel.stab.and Stab.triv).and Stab.vrel).and Stab.vrel) (RunC.holding (Run.lift ((jjD r e3).pre fun σ h _ i=>⟨i.1.2,i.2⟩))) fun _=>RunC.release fun _ _ _=>trivial)) fun _=>RunC.pure fun _ _ _=>trivial) fun _=>RunC.pure fun _ _ _=>trivial
end
end Mine
end
section
open PySem PySem.W PyProof.Rows PySem.Calls
namespace Mine
theorem jeB {f:Expr→Option Str} (hf:∀ x p,f (.Name x p)=some x∨f (.Name x p)=none):∀ {ts:List Expr} {xs:List Str},targetNames ts=some xs→(ts.filterMap f).length≤ts.length∧((ts.filterMap f).length=ts.length→ts.filterMap f=xs)
 | [],xs,e=>by obtain rfl:=Option.some.inj e;exact ⟨Nat.le_refl _,fun _=>rfl⟩
 | t::ts,xs,e=>by
  induction t using PySem.Expr.casesOn with
  | Name x p=>
   refine xEA (mI e) fun ys e1 e2=>?_
   subst e2
   replace e:=e1
   refine xA (jeB hf e) fun i1 i2=>?_
   rw [List.filterMap_cons]
   rcases hf x p with q | q
   ·rw [q]
    rw [List.length_cons,List.length_cons]
    refine ⟨by lia,fun h=>?_⟩
    rw [i2 (by lia)]
   ·rw [q]
    dsimp only
    rw [List.length_cons]
    refine ⟨by lia,fun h=>?_⟩
    lia
  | _=>exact j0 e
noncomputable def jiR:Expr→Expr→Bool
 | .Tuple ts _ _,.Tuple vs _ _=>!vs.all (constantsAlone 8)||vs.all (foldedForSure 8)
 | _,_=>true
theorem jfL {ts:List Expr} {xs:List Str} {k:Nat} {p:Pos} {e:Expr} {env:Env} (hx:targetNames ts=some xs) (hk:jiR (.Tuple ts k p) e=true):swappedStores [.Tuple ts k p] e env=pure none∨swappedStores [.Tuple ts k p] e env=pure (some xs):=by
 induction e using PySem.Expr.casesOn with
 | Tuple vs k' p'=>
  unfold swappedStores
  dsimp only
  split
  ·exact .inl rfl
  split
  ·exact .inl rfl
  split
  ·exact .inl rfl
  rename_i hn
  split
  ·exact .inl rfl
  rename_i hfold
  split
  ·rename_i hc
   exfalso
   have hk:(!vs.all (constantsAlone 8)||vs.all (foldedForSure 8))=true:=hk
   rw [hc] at hk
   simp at hk
   exact hfold (by simpa using hk)
  ·right
   rw [Bool.or_eq_true,bne_iff_ne,ne_eq,not_or,Decidable.not_not] at hn
   congr 2
   exact (jeB (fun x p=>by dsimp only;split<;>simp) hx).2 hn.1
 | _=>exact .inl rfl
section
variable {c:Cx} {A:Around} {sc sc':Scope} {env:Env} {ρ ρ1 ρ2:Loc} {n m:Nat} {S S1 S2 S3:St} {σ σ1 σ2:Sig} {h h1 h2:Heap} {x y:Str}
theorem RunS.congr {α:Type} {t:Sem α} {V:Sig→Heap→α→Prop} {I:Sig→Heap→Prop} (e:∀ y,j6 y ρ1=j6 y ρ2) (r:RunS c A sc env t ρ S ρ1 S1 V I):RunS c A sc env t ρ S ρ2 S1 V I:=
 fun σ s Q E R L i k=>r σ s Q E R L i fun σ' h' t' a R' T L' v=>k σ' h' t' a R' T (L'.congr e) v
theorem VRels.reverse {as:List AV} {bs:List Value} (V:VRels c σ h as bs):VRels c σ h as.reverse bs.reverse:=
 V.ind (P:=fun as bs=>VRels c σ h as.reverse bs.reverse) .nil fun x v xs vs V _ ih=>by
  rw [List.reverse_cons,List.reverse_cons]
  exact ih.append (.cons V .nil)
theorem assign_tuple (r:Room A n) {ts:List Expr} {xs:List Str} {k:Nat} {q p:Pos} {e:Expr} {v:AV} {vs:List AV} (he:Ev c A sc env e ρ S v S1) (hn:vN e=true)
  (hx:targetNames ts=some xs) (nd:xs.Nodup) (hk:u7 sc (.Tuple ts k q)=true) (hpk:jiR (.Tuple ts k q) e=true) (hs:yE S1 v=some vs) (hl:xs.length=vs.length) :
  RunS c A sc env (exec (.Assign [.Tuple ts k q] e p) env) ρ S (putAll xs vs ρ) S1 (fun σ h g=>FlR c σ h .next g) (fun _ _=>True):=by
 rcases jfL (env:=env) hx hpk with hsw | hsw
 ·exact uV he (qV hn) hsw rfl fun w=>tF r hk (.tuple ts k q xs vs rfl hx hs hl)
 ·rw [arm_exec_Assign]
  refine RunS.at ?_
  have e2:swapsWithSole [.Tuple ts k q] e p.line env=pure false:=qV (t:=some (.Tuple ts k q)) (l:=p.line) (env:=env) hn
  rw [e2]
  refine RunS.bind (V:=fun σ h w=>VRel c σ h v w) StabX.triv (RunC.s (RunC.pre he fun σ h _ i=>i.1)) fun w=>?_
  rw [hsw]
  show RunS c A sc env (rule "assign.swapped-stores" >>= fun _=>unpackItems w xs.length none >>= fun items=>assignInOrder (xs.reverse.map fun n=>bindName env n) items.reverse >>= fun _=>pure Flow.next) ρ S1 (putAll xs vs ρ) S1 _ _
  have hk':(match targetNames ts with | some xs=>xs.all (ownName sc) | none=>false)=true:=hk
  replace hk':=hx▸hk'
  have hk':∀ x∈xs,ownName sc x=true:=List.all_eq_true.mp hk'
  refine RunS.bind (V:=fun _ _ _=>True) (StabX.triv.and StabX.vrel) (RunC.s (Run.lift (Run.toks fun σ s Q E R i q=>wpAny_rule (q () s.toks trivial)))) fun _=>?_
  rw [hl]
  refine RunS.bind (V:=fun σ h ws=>VRels c σ h vs ws) ((StabX.triv.and StabX.vrel).and StabX.triv) (RunC.s (Run.lift ((jd7 r hs).pre fun σ h _ i=>i.2.1.2))) fun ws=>?_
  refine RunS.congr (fun y=>jdA nd hl) ?_
  exact RunS.bind (V:=fun _ _ _=>True) (((StabX.triv.and StabX.vrel).and StabX.triv).and StabX.vrels) ((jd8 (t:=fun n=>bindName env n) (fun x a v ρ S hx=>jh8 hx) (fun z hz=>hk' z (List.mem_reverse.mp hz)) (by rw [List.length_reverse,List.length_reverse,hl])).pre fun σ h _ i=>i.2.reverse) fun _=>RunS.pure fun _ _ _=>trivial
theorem jbM (Y:kS c) (r:Room A n) {el iter:Expr} {ifs:List Expr} {px pos q p:Pos} {a:AV} {xs:List AV} {g:Option Nat} (hx:ownName sc x=true)
  (K:gD sc sc' y) (hset:∀ v,foldedSetIterable iter env v=pure v) (h1:Ev c A sc env iter ρ S a S1) (e2:itemsOf S1 a=some (xs,g)) (hg:g.isSome=true) (e3:Turns (jpI c A sc' ifs el S1.length y ρ) g xs (S1++[.list []]) S2) :
  RunS c A sc env (exec (.Assign [.Name x q] (.ListComp el [⟨.Name y px,iter,ifs,0⟩] sc' pos) p) env) ρ S (jA x (.ref S1.length) ρ) S2 (fun σ h g=>FlR c σ h .next g) (fun _ _=>True):=by
 obtain ⟨b,hb⟩:∃ b,swapsWith (.ListComp el [⟨.Name y px,iter,ifs,0⟩] sc' pos) (some (.Name x q)) p.line env=pure b:=⟨_,rfl⟩
 induction b using Bool.casesOn with
 | false=>exact uV (jb9 Y r K hset h1 e2 hg e3) hb rfl rfl fun w=>uC hx
 | true=>
  intro σ s Q E R L _ k
  rw [arm_exec_Assign]
  refine j3 (wpAny_standAt ?_)
  have e4:swapsWithSole [.Name x q] (.ListComp el [⟨.Name y px,iter,ifs,0⟩] sc' pos) p.line env=pure true:=hb
  rw [e4]
  show wpC _ _ ((comprehension (.ListComp el [⟨.Name y px,iter,ifs,0⟩] sc' pos) sc' env (firstIterPos [⟨.Name y px,iter,ifs,0⟩] pos) (newList []) false (eval iter env) (some fun v=>assign (.Name x q) env v) >>= fun _=>pure ()) >>= fun _=>pure Flow.next) _ _ _
  refine j8 (j8 (m5 Y r K hset h1 e2 hg e3 R L fun σ' h' t' C D R' T' hC hCm hC0 ⟨m,hn⟩ V=>?_))
  have Tx:=T'.toX R L.apart
  have L':=LocRel.stab _ _ _ _ _ R T' L
  have hCf:C ∉ fa env:=fun q=>by
   refine xE (L.live C q) fun o e=>?_
   rw [hC] at e;exact j0 e
  refine uC hx σ' { s with heap:=h',toks:=t' } _ E R' L' V fun σ2 h2 t2 u R2 T2 L2 _=>?_
  have hn2:h2.Ns C m:=by
   refine nY hn fun o es ep e r=>?_
   exact ⟨o,es,ep,T2.ext _ _ e hCm hCf,r⟩
  have hCm2:C ∉ jZ σ2:=fun q=>by
   rcases T2.new C q with q | q
   ·exact hCm q
   ·refine nY hn fun o _ _ e _=>?_
    rw [e] at q;exact j0 q.symm
  refine ⟨m,hn2,fun h3 hs=>jE (jE ?_)⟩
  exact k σ2 h3 t2 _ (R2.but hs.extBut hCm2 hC0 (zH hn2)) ((Tx.trans T2 L.live).but hs.extBut hC) (L2.but hs.extBut hCf (zH hn2)) trivial
end
end Mine
end
section
open PySem PySem.W PyProof.Rows PySem.Calls
namespace Mine
section
variable {c:Cx} {A:Around} {sc sc':Scope} {env:Env} {ρ ρ1 ρ2:Loc} {n m:Nat} {S S0 S1 S2 S3:St} {σ σ0 σ1 σ2:Sig} {h h0 h1 h2:Heap} {x y:Str}
theorem mark_none:A.mark none=A:=by induction A using PySem.Around.casesOn;rfl
noncomputable def ownedIters:List String:=["enumerate","zip","dict_itemiterator","dict_reverseitemiterator","odict_iterator","itertools.zip_longest","itertools.pairwise"]
theorem jjS {T:String} {I:Addr} {o:Obj} {t:Expr} {v:Value} {s:Shared} {Q:Unit→Shared→Prop} {E:Value→Shared→Prop} {M:Model} (ho:s.heap.get? I=some o) (hc:o.cls = .type T) (hT:ownedIters.contains T=false) (hd:∃ f,o.data = .fields f) (q:Q () s) :
  wpAny M A (letOwnedTupleGo t (.ref I) v) Q E s:=by
 refine xE hd fun f hd=>?_
 have key:wpAny M A (match (Value.ref I,v) with
  | (.ref r,.ref a)=>(do
   let o ← load r
   match o.cls,o.data with
   | .type n,.fields vs=>
    if ownedIters.contains n&&vs[0]? == some (rawInt a) then
     rule "for.unpacks-the-owned-tuple"
     updateField r 0 .none
   | _,_=>pure ():Sem Unit)
  | _=>pure ()) Q E s:=by
  induction v using PySem.Value.casesOn with
  | ref a=>
   refine wpAny_bind (wpAny_load ho ?_)
   rw [hc,hd]
   dsimp only
   rw [hT,Bool.false_and]
   exact wpAny_pure q
  | _=>exact wpAny_pure q
 induction t using PySem.Expr.casesOn with
 | Tuple ts k p=>exact key
 | List ts p=>exact key
 | _=>exact wpAny_pure q
theorem go_ok {I:Addr} {xs:List AV} {g:Option Nat} {i:Nat} {t:Expr} {v:Value} {s:Shared} {Q:Unit→Shared→Prop} {E:Value→Shared→Prop} {M:Model} (it:ItAt c σ s.heap S I xs g i) (q:Q () s):wpAny M A (letOwnedTupleGo t (.ref I) v) Q E s:=by
 induction it using ItAt.casesOn with
 | tup t vs xs i a _ _ _=>refine yJ a fun o e hc d=>?_;exact jjS e hc (by decide) ⟨_,d⟩ q
 | bytes b t i a=>refine yJ a fun o e hc d=>?_;exact jjS e hc (by decide) ⟨_,d⟩ q
 | list k l xs i _ _ a=>refine yJ a fun o e hc d=>?_;exact jjS e hc (by decide) ⟨_,d⟩ q
 | dict k d fl es ep i _ _ a=>refine yJ a fun o e hc d=>?_;exact jjS e hc (by decide) ⟨_,d⟩ q
 | range m i a _=>exact jjS a rfl (by decide) ⟨_,rfl⟩ q
inductive ForR (b:AV→Loc→St→Loc→Prop) (p:Loc→St→Fl→Loc→St→Prop) (g:Option Nat):List AV→Loc→St→Fl→Loc→St→Prop
 | nil (ρ:Loc) (S:St):ForR b p g [] ρ S .next ρ S
 | ret (v:AV) (vs:List AV) (ρ:Loc) (S:St) (ρ1:Loc) (u:AV) (ρ2:Loc) (S2:St) (h1:b v ρ S ρ1) (h2:p ρ1 S (.ret u) ρ2 S2):ForR b p g (v::vs) ρ S (.ret u) ρ2 S2
 | next (v:AV) (vs:List AV) (ρ:Loc) (S:St) (ρ1 ρ2:Loc) (S2:St) (f:Fl) (ρ':Loc) (S':St) (h1:b v ρ S ρ1) (h2:p ρ1 S .next ρ2 S2) (hst:stays g S S2=true) (r:ForR b p g vs ρ2 S2 f ρ' S'):ForR b p g (v::vs) ρ S f ρ' S'
noncomputable def xX (c:Cx) (A:Around) (sc:Scope) (env:Env) (body:List Stmt) (ρ:Loc) (S:St) (f:Fl) (ρ':Loc) (S':St):Prop:=RunS c A sc env (execs body env) ρ S ρ' S' (fun σ h fl=>FlR c σ h f fl) (fun _ _=>True)
theorem ForR.nil' {B:AV→Loc→St→Loc→Prop} {R:Loc→St→Fl→Loc→St→Prop} {g:Option Nat} {ρ ρ':Loc} {S S':St} {f:Fl} (h:ForR B R g [] ρ S f ρ' S'):f = .next∧ρ'=ρ∧S'=S:=by
 cases h;exact ⟨rfl,rfl,rfl⟩
theorem ForR.cons' {B:AV→Loc→St→Loc→Prop} {R:Loc→St→Fl→Loc→St→Prop} {g:Option Nat} {v:AV} {vs:List AV} {ρ ρ':Loc} {S S':St} {f:Fl} (h:ForR B R g (v::vs) ρ S f ρ' S') :
  ∃ ρ1 f1 ρ2 S2,B v ρ S ρ1∧R ρ1 S f1 ρ2 S2∧((∃ u,f1 = .ret u∧f = .ret u∧ρ'=ρ2∧S'=S2)∨(f1 = .next∧stays g S S2=true∧ForR B R g vs ρ2 S2 f ρ' S')):=by
 cases h with
 | ret _ _ _ _ ρ1 u ρ2 S2 h1 h2=>exact ⟨_,_,_,_,h1,h2,.inl ⟨_,rfl,rfl,rfl,rfl⟩⟩
 | next _ _ _ _ ρ1 ρ2 S2 _ _ _ h1 h2 hst r=>exact ⟨_,_,_,_,h1,h2,.inr ⟨rfl,hst,r⟩⟩
theorem jkX (r:Room A n) {t:Expr} {body:List Stmt} {I:Addr} {g:Option Nat} {xs:List AV} {R':Result→Shared→Prop} (ht:u7 sc t=true)
  (hI:h1.get? I=none) (hI0:c.H0.get? I=none) (hal:∀ b∈fa env,∃ o,h1.get? b=some o) {f:Fl} {ρ':Loc} {S':St} :
  ∀ (m i:Nat) (S:St) (σ:Sig) (s:Shared) (ρ:Loc),xs.length - i=m→i≤xs.length→Rep c σ S s.heap→StepX c (fa env) σ1 h1 σ s.heap→LocRel c σ s.heap sc env ρ→
   ItAt c σ s.heap S I xs g i→I ∉ jZ σ→I ∉ fa env→ForR (Binds t) (xX c A sc env body) g (xs.drop i) ρ S f ρ' S'→
   (∀ σ' h' t' fl,Rep c σ' S' h'→StepX c (fa env) σ1 h1 σ' h'→LocRel c σ' h' sc env ρ'→FlR c σ' h' f fl→R' (.ok fl) { s with heap:=h',toks:=t' })→kQ (model c.prog c.w) A (.forLoop t (.ref I) body [] env) R' s:=by
 intro m
 induction m with
 | zero=>
  intro i S σ s ρ hm hi R T L it hIm hIf hev post
  have hi:i=xs.length:=by lia
  subst hi
  refine xAA (ForR.nil' (List.drop_length▸hev)) fun q1 q2 q3=>?_;obtain rfl:=q1;obtain rfl:=q2;obtain rfl:=q3
  have nt:=it.alive.2
  refine jI rfl ?_
  rw [Around.under_of_weight rfl]
  refine k7 ?_
  refine j3 (wpAny_standAt (j8 (k7 (zL (jkI r R it fun h' hk=>?_)))))
  refine jE ⟨rfl,jI rfl ?_⟩
  rw [Around.under_of_weight rfl]
  refine j8 (k7 (jE (jE ?_)))
  exact post σ h' s.toks .next (R.but hk hIm hI0 nt) (T.but hk hI) (L.but hk hIf nt) trivial
 | succ m ih=>
  intro i S σ s ρ hm hi R T L it hIm hIf hev post
  have hlt:i < xs.length:=by omega
  replace hev:=List.drop_eq_getElem_cons hlt▸hev
  refine vO (ForR.cons' hev) fun ρ1 f1 ρ2 S2 e1 e2 e3=>?_
  have nt:=it.alive.2
  refine jI rfl ?_
  rw [Around.under_of_weight rfl]
  show wpC _ _ ((forTurn t (.ref I) body [] env).onRaise _) _ _ _
  refine k7 ?_
  unfold forTurn
  refine j3 (wpAny_standAt (j8 (k7 (zL (jgI R it hIm (x:=xs[i]) (List.getElem?_eq_getElem hlt) fun h' t' v hs Vx it'=>?_)))))
  have Ra:=R.but hs.extBut hIm hI0 nt
  have Ta:=T.but hs.extBut hI
  have La:=L.but hs.extBut hIf nt
  refine j3 (go_ok (s:={ s with heap:=h',toks:=t' }) it' ?_)
  refine j8 (tF r ht e1 σ { s with heap:=h',toks:=t' } _ _ Ra La Vx fun σ2 h2 t2 _ R2 T2 L2 _=>?_)
  refine j8 (e2 σ2 { s with heap:=h2,toks:=t2 } _ _ R2 L2 trivial fun σ3 h3 t3 fl R3 T3 L3 hfl=>?_)
  have T23:=T2.trans T3 La.live
  have Tall:=Ta.trans T23 hal
  have hIm3:I ∉ jZ σ3:=fun q=>by
   rcases T23.new I q with q | q
   ·exact hIm q
   ·obtain ⟨o,e⟩:=it'.alive.1
    rw [e] at q;exact j0 q.symm
  rcases e3 with ⟨u,rfl,rfl,rfl,rfl⟩ | ⟨rfl,hst,e3⟩
  ·induction fl using PySem.Flow.casesOn with
   | ret w=>exact jE (post σ3 h3 t3 _ R3 Tall L3 hfl)
   | _=>exact hfl.elim
  ·induction fl using PySem.Flow.casesOn with
   | next=>
    refine jE ⟨rfl,ih (i+1) S2 σ3 { s with heap:=h3,toks:=t3 } ρ2 (by lia) hlt R3 Tall L3 (it'.step T23 hIm hIf hst) hIm3 hIf e3 fun σ' h' t'=>post σ' h' t'⟩
   | _=>exact hfl.elim
theorem jdW {co:Code} {s:Shared} {Q:Flow→Shared→Prop} {E:Value→Shared→Prop} {M:Model} (h:kQ M A co (fun r s'=>match r with | .ok f=>Q f s' | .error _=>False) s):wpC M A (runOwn co env) Q E s:=by
 refine k7 (jpK ?_)
 rw [mark_none]
 refine tU h fun r s hr=>?_
 induction r using Except.casesOn with
 | ok f=>exact hr
 | error e=>exact hr.elim
theorem jxV (Y:kS c) (r:Room A n) {t iter:Expr} {body:List Stmt} {p:Pos} {a:AV} {g:Option Nat} {xs:List AV} {f:Fl} (ht:u7 sc t=true) (hset:∀ v,foldedSetIterable iter env v=pure v)
  (h1:Ev c A sc env iter ρ S a S1) (e2:itemsOf S1 a=some (xs,g)) (e3:ForR (Binds t) (xX c A sc env body) g xs ρ S1 f ρ2 S2) :
  RunS c A sc env (exec (.For t iter body [] p) env) ρ S ρ2 S2 (fun σ h fl=>FlR c σ h f fl) (fun _ _=>True):=by
 intro σ s Q E R L _ k
 rw [arm_exec_For]
 refine j3 (wpAny_standAt (j8 (h1 σ s _ E R L fun σ1 h1' t1 v R1 T1 V1=>?_)))
 rw [hset]
 have T1x:=T1.toX R L.apart
 have L1:=LocRel.stab _ _ _ _ _ R T1 L
 refine j3 (wpAny_pure (j3 (wpAny_standAt (j3 (wpAny_holding (je9 (s:={ s with heap:=h1',toks:=t1 }) Y e2 R1 V1 fun hI I kI nI it=>?_))))))
 refine xA (R1.ext kI) fun RI TI=>?_
 have LI:=LocRel.stab _ _ _ _ _ R1 TI L1
 have hI0:c.H0.get? I=none:=by
  cases e:c.H0.get? I with
  | none=>rfl
  | some o=>rw [R1.keep _ _ e] at nI;exact j0 nI.symm
 have hIm:I ∉ jZ σ1:=fun q=>by
  refine xEA (R1.live q) fun o e _=>?_
  rw [show h1'.get? I=none from nI] at e;exact j0 e
 have hIf:I ∉ fa env:=fun q=>by
  refine xE (L1.live I q) fun o e=>?_
  rw [show h1'.get? I=none from nI] at e;exact j0 e
 refine jdW (jkX (σ1:=σ1) (h1:=h1') r ht nI hI0 L1.live xs.length 0 S1 σ1 { s with heap:=hI,toks:=t1 } ρ rfl (Nat.zero_le _) RI (TI.toX R1 L1.apart) LI it hIm hIf e3 fun σ' h' t' fl R' T' L' hf=>?_)
 exact k σ' h' t' fl R' (T1x.trans T' L.live) L' hf
theorem jaU {k:Int} (h0:0≤k) (h1:k≤1000):Builtin.Range.small 0 k 1=true∧Builtin.Range.rangeSize 0 k 1=k:=by
 refine ⟨small_one (by decide) (by decide) (by lia) (by lia),?_⟩
 unfold Builtin.Range.rangeSize
 rw [if_pos (by decide)]
 split
 ·rw [Int.ediv_one];lia
 ·lia
theorem jqF (W:Fit c) (r:Room A n) {t e:Expr} {x:Str} {np cp:Pos} {body:List Stmt} {p:Pos} {k:Int} {f:Fl} (ht:u7 sc t=true) (hx:x = "range") (hk:jF sc x=some .globalImplicit)
  (h1:Ev c A sc env e ρ S (.int k) S1) (hns:notStar e=true) (h0:0≤k) (h2:k≤1000) (e3:ForR (Binds t) (xX c A sc env body) none (jR k) ρ S1 f ρ2 S2) :
  RunS c A sc env (exec (.For t (.Call (.Name x np) [e] [] cp) body [] p) env) ρ S ρ2 S2 (fun σ h fl=>FlR c σ h f fl) (fun _ _=>True):=by
 intro σ s Q E R L _ q
 rw [arm_exec_For]
 have ecall:RunC c A S (eval (.Call (.Name x np) [e] [] cp) env) S1 (fun σ h w=>∃ a t1 t2 t3,w = .ref a∧IsRange h a 0 k 1 t1 t2 t3) (fun σ h=>LocRel c σ h sc env ρ):=by
  rw [arm_eval_Call_Name',kK (by simp [hns])]
  subst hx
  refine RunC.bind LocRel.stab (mH W.base W.free (f:=.type "range") (by decide +kernel) hk) fun fv=>?_
  refine RunC.by (p:=fv = .type "range") (fun σ h _ i=>i.2) fun hfv=>?_
  subst hfv
  refine wL plain_any (LocRel.stab.and Stab.triv) (wN rfl) ((Evs.cons h1 .nil).run.pre fun σ h _ i=>i.1) fun ws=>?_
  refine RunC.by (p:=∃ w,ws=[w]) (fun σ h _ i=>by refine xEA (nD i.2) fun w e _=>?_;exact ⟨w,e⟩) fun ⟨w,hw⟩=>?_
  subst hw
  refine Run.lift ?_
  intro σ s Q E R i q
  refine xEA (nD i.2) fun w' ew V=>?_
  obtain ⟨rfl,e18q⟩:=List.cons.inj ew
  obtain ⟨tk,rfl⟩:=V.int'
  ·
   refine call_range_1 (q _ _ _ _ (R.push _) (.push _) ⟨_,s.toks,tk,s.toks+1,rfl,Heap.get?_push_size _ rfl⟩)
 refine j3 (wpAny_standAt (j8 (ecall σ s _ E R L fun σ1 h1' t1 v R1 T1 V1=>?_)))
 obtain ⟨a,u1,u2,u3,rfl,hr⟩:=V1
 have T1x:=T1.toX R L.apart
 have L1:=LocRel.stab _ _ _ _ _ R T1 L
 refine j3 (m:=foldedSetIterable (.Call (.Name x np) [e] [] cp) env (.ref a)) (wpAny_pure (j3 (wpAny_standAt (j3 (wpAny_holding (wpAny_pyIter_range (s:={ s with heap:=h1',toks:=t1 }) hr (jaU h0 h2).1 ?_))))))
 rw [(jaU h0 h2).2]
 have nI:h1'.get? h1'.objs.size=none:=Heap.get?_none_of_le (Nat.le_refl _)
 have kI:∀ b o,h1'.get? b=some o→(h1'.push { cls:=.type "range_iterator",data:=.fields #[rawInt 0,rawInt k,rawInt 1]}).get? b=some o:=fun b o e=>Heap.get?_push_of_some _ e
 refine xA (R1.ext kI) fun RI TI=>?_
 have LI:=LocRel.stab _ _ _ _ _ R1 TI L1
 have hI0:c.H0.get? h1'.objs.size=none:=by
  cases e:c.H0.get? h1'.objs.size with
  | none=>rfl
  | some o=>rw [R1.keep _ _ e] at nI;exact j0 nI.symm
 have hIm:h1'.objs.size ∉ jZ σ1:=fun q=>by
  refine xEA (R1.live q) fun o e _=>?_
  rw [nI] at e;exact j0 e
 have hIf:h1'.objs.size ∉ fa env:=fun q=>by
  refine xE (L1.live _ q) fun o e=>?_
  rw [nI] at e;exact j0 e
 have it:ItAt c σ1 (h1'.push { cls:=.type "range_iterator",data:=.fields #[rawInt 0,rawInt k,rawInt 1]}) S1 h1'.objs.size (jR k.toNat) none 0:=by
  refine .range k.toNat 0 ?_ (Nat.zero_le _)
  have e:((k.toNat:Nat):Int) - ((0:Nat):Int)=k:=by lia
  rw [e]
  exact Heap.get?_push_size _ rfl
 have ek:jR ((k.toNat:Nat):Int)=jR k:=by rw [Int.toNat_of_nonneg h0]
 rw [ek] at it
 refine jdW (jkX (σ1:=σ1) (h1:=h1') r ht nI hI0 L1.live (jR k).length 0 S1 σ1 { s with heap:=h1'.push { cls:=.type "range_iterator",data:=.fields #[rawInt 0,rawInt k,rawInt 1]},toks:=t1 } ρ rfl (Nat.zero_le _) RI (TI.toX R1 L1.apart) LI it hIm hIf e3 fun σ' h' t' fl R' T' L' hf=>?_)
 exact q σ' h' t' fl R' (T1x.trans T' L.live) L' hf
theorem jqL {te:Expr} {body orelse:List Stmt} {p:Pos} {f:Fl} (ht:Tst c A sc env te ρ S S1 false) (hb:xX c A sc env orelse ρ S1 f ρ2 S2) :
  RunS c A sc env (exec (.While te body orelse p) env) ρ S ρ2 S2 (fun σ h fl=>FlR c σ h f fl) (fun _ _=>True):=by
 intro σ s Q E R L _ k
 rw [arm_exec_While]
 refine j3 (wpAny_standAt (jdW (jI rfl ?_)))
 rw [Around.under_of_weight rfl]
 refine k7 ?_
 refine j8 (ht σ s _ _ R L fun σ1 h1 t1 b R1 T1 hb1=>?_)
 subst hb1
 rw [if_neg Bool.false_ne_true]
 have T1x:=T1.toX R L.apart
 have L1:=LocRel.stab _ _ _ _ _ R T1 L
 exact j8 (hb σ1 { s with heap:=h1,toks:=t1 } _ _ R1 L1 trivial fun σ2 h2 t2 fl R2 T2 L2 hf=>jE (k σ2 h2 t2 fl R2 (T1x.trans T2 L.live) L2 hf))
end
end Mine
end
section
open PySem PySem.W PyProof.Rows PySem.Calls
namespace Mine
open Law (IE IT IS Row zN sq rE rEs jgX n7 rO need yN cutB onO jnY fnV jbQ jmM jlF pairUp turns vU yO qY qK y4)
theorem j9 {α:Type} {c:Bool} {x:Option α} {r:α} (h:yN c x=some r):c=true∧x=some r:=match c,h with
 | true,h=>⟨rfl,h⟩
theorem gF {c:Bool} {u:Unit} (h:need c=some u):c=true:=(jD h).1
theorem oE {α:Type} {b:Option Bool} {x y:Option α} {r:α} {P:Prop} (h:onO none b x y=some r) (H:∀ t,b=some t→cond t x y=some r→P):P:=match b,h,H with
 | some true,h,H=>H true rfl h
 | some false,h,H=>H false rfl h
noncomputable def v9 (x:Str):List (Str×NameKind)→Option NameKind
 | []=>none
 | p::r=>match sq x p.1 with
  | true=>some p.2
  | false=>v9 x r
theorem xS (x:Str):∀ l,v9 x l=l.lookup x
 | []=>rfl
 | (y,k)::r=>by
  rw [List.lookup_cons]
  show (match sq x y with | true=>some k | false=>v9 x r)=_
  cases e:sq x y with
  | true=>rw [Law.sq_of e,beq_self_eq_true]
  | false=>rw [beq_eq_false_iff_ne.2 (Law.sq_ne e)];exact xS x r
noncomputable def vY (x:Str):List Str→Option Nat
 | []=>none
 | y::r=>match sq x y with
  | true=>some 0
  | false=>(vY x r).map (· + 1)
noncomputable def kM (NT:List Str) (ρ:Loc):Law.Ev:=NT.map fun x=>j6 x ρ
theorem jt1 {x:Str} {ρ:Loc}:∀ {NT:List Str} {j:Nat},vY x NT=some j→(kM NT ρ).at j=j6 x ρ
 | y::NT,j,h=>by
  revert h
  show (match sq x y with | true=>some 0 | false=>(vY x NT).map (· + 1))=some j→_
  cases e:sq x y with
  | true=>exact fun h=>by obtain rfl:=Option.some.inj h;rw [Law.sq_of e];rfl
  | false=>exact jY (C:=fun j=>(kM (y::NT) ρ).at j=j6 x ρ) fun i hi=>jt1 (NT:=NT) hi
theorem jtS {x:Str} {v:AV} {ρ:Loc} {NT:List Str} (h:x ∉ NT):kM NT (jA x v ρ)=kM NT ρ:=
 List.map_congr_left fun y hy=>(jV ..).trans (if_neg fun q=>h (by rw [q];exact hy))
theorem vC {x:Str} {v:AV} {ρ:Loc}:∀ {NT:List Str} {j:Nat},NT.Nodup→vY x NT=some j→(kM NT ρ).put j v=kM NT (jA x v ρ)
 | y::NT,j,hN,h=>by
  refine xA (List.nodup_cons.1 hN) fun n1 n2=>?_
  revert h
  show (match sq x y with | true=>some 0 | false=>(vY x NT).map (· + 1))=some j→_
  cases e:sq x y with
  | true=>
   obtain rfl:=Law.sq_of e
   intro h
   obtain rfl:=Option.some.inj h
   show some v::kM NT ρ=j6 x (jA x v ρ)::kM NT (jA x v ρ)
   rw [jtS n1,jV,if_pos rfl]
  | false=>
   refine jY (C:=fun j=>(kM (y::NT) ρ).put j v=_) fun i hi=>?_
   show j6 y ρ::(kM NT ρ).put i v=j6 y (jA x v ρ)::kM NT (jA x v ρ)
   rw [vC n2 hi,jV,if_neg (Law.sq_ne e)]
section
variable (isC:Str→Bool) (t:List Row) (G:Str→Option AV) (NT:List Str)
noncomputable def trs (f:Expr→Option IE):List Expr→Option (List IE)
 | []=>some []
 | e::r=>(f e).bind fun i=>(trs f r).map (i :: ·)
noncomputable def trKV (f:Expr→Option IE):List (Option Expr)→List Expr→Option (List IE)
 | [],es=>match es with
  | []=>some []
  | _::_=>none
 | k::ks,es=>match k with
  | none=>none
  | some k=>match es with
   | []=>none
   | e::es=>(f k).bind fun a=>(f e).bind fun b=>(trKV f ks es).map fun r=>a::b::r
noncomputable def trO (f:Expr→Option IE):Option Expr→Option (Option IE)
 | none=>some none
 | some e=>(f e).map some
noncomputable def jvA (gs:List Comprehension):Option (Str×Expr×List Expr):=match gs with
 | [⟨.Name x _,it,ifs,0⟩]=>some (x,it,ifs)
 | _=>none
noncomputable def oneL {α:Type}:List α→Option α
 | [a]=>some a
 | _=>none
noncomputable def twoL {α:Type}:List α→Option (α×α)
 | [a,b]=>some (a,b)
 | _=>none
noncomputable def okE (sc:Scope) (e:Expr):Bool:=match e with
 | .Name x _=>wU x
 | .Tuple es _ _=>es.all notStar&&Nat.ble es.length 1000
 | .List es _=>es.all notStar&&Nat.ble es.length 1000
 | .Dict _ es _=>Nat.ble es.length 15
 | .Attribute o a _=>zT o&&vU a attrNames
 | .Call f as _ pos=>as.all notStar&&(match f with
  | .Attribute o _ ap=>zT o&&(ap.endLine==pos.line&&Nat.blt as.length 30)
  | _=>true)
 | _=>true
noncomputable def trBody (tr:Scope→Expr→Option IE) (sc:Scope) (e:Expr):Option IE:=match e with
 | .Constant c _ _=>(ju7 c).map .con
 | .Name x _=>match v9 x sc.names with
  | some .local=>(vY x NT).map .loc
  | some .cell=>(vY x NT).map .loc
  | some .free=>(vY x NT).map .loc
  | some .globalImplicit=>match zN x t with
   | some _=>some (.con (.fn x))
   | none=>(G x).map .con
  | _=>none
 | .Tuple es _ _=>(trs (tr sc) es).map .tup
 | .List es _=>(trs (tr sc) es).map .lst
 | .Dict ks es _=>(trKV (tr sc) ks es).map .dct
 | .BinOp l op r _=>(tr sc l).bind fun a=>(tr sc r).map fun b=>.bin op a b
 | .UnaryOp op e _=>(tr sc e).map (.un op)
 | .BoolOp op es _=>(trs (tr sc) es).map (.bool op)
 | .Compare l ops es _=>match ops with
  | [op]=>(oneL es).bind fun e=>yN (yH e) ((tr sc l).bind fun a=>(tr sc e).map fun b=>.cmp op a b)
  | [op,op2]=>(twoL es).bind fun p=>yN (yH p.2) ((tr sc l).bind fun a=>(tr sc p.1).bind fun b=>(tr sc p.2).map fun c=>.cmp2 op op2 a b c)
  | _=>none
 | .IfExp t b o _=>(tr sc t).bind fun x=>(tr sc b).bind fun y=>(tr sc o).map fun z=>.ifx x y z
 | .Attribute o a _=>(tr sc o).map fun x=>.attr x a
 | .Subscript o i _=>(tr sc o).bind fun x=>match i with
  | .Slice lo hi st _=>match st with
   | none=>(trO (tr sc) lo).bind fun a=>(trO (tr sc) hi).map fun b=>.slice x a b
   | some _=>none
  | i=>(tr sc i).map fun y=>.sub x y
 | .Call f as ks _=>match ks with
  | []=>(trs (tr sc) as).bind fun l=>match f with
   | .Attribute o m _=>(tr sc o).map fun x=>.meth x m l
   | .Name x _=>yN (wU x) (match v9 x sc.names with
    | some .globalImplicit=>match isC x with
     | true=>some (.call x l)
     | false=>some (.bltn x l)
    | _=>none)
   | .Subscript o i p=>(tr sc (.Subscript o i p)).map fun x=>.callv x l
   | _=>none
  | _::_=>none
 | .ListComp el gs sc' _=>(jvA gs).bind fun p=>yN (jaF sc sc' p.1&&yH p.2.1) ((vY p.1 NT).bind fun j=>(tr sc p.2.1).bind fun a=>(trs (tr sc') p.2.2).bind fun l=>(tr sc' el).map fun b=>.lcomp b j a l)
 | .DictComp ke el gs sc' _=>(jvA gs).bind fun p=>yN (jaF sc sc' p.1&&yH p.2.1) ((vY p.1 NT).bind fun j=>(tr sc p.2.1).bind fun a=>(trs (tr sc') p.2.2).bind fun l=>(tr sc' ke).bind fun c=>(tr sc' el).map fun b=>.dcomp c b j a l)
 | _=>none
noncomputable def trE:Nat→Scope→Expr→Option IE
 | 0,_,_=>none
 | n+1,sc,e=>yN (okE sc e) (trBody isC t G NT (trE n) sc e)
end
theorem jdX {gs:List Comprehension} {p:Str×Expr×List Expr} (h:jvA gs=some p):∃ px,gs=[⟨.Name p.1 px,p.2.1,p.2.2,0⟩]:=by
 rcases gs with _ | ⟨⟨tg,it,ifs,z⟩,_ | ⟨g2,gs⟩⟩
 ·exact j0 h
 ·induction tg using PySem.Expr.casesOn with
  | Name x px=>
   rcases z with (_ | z) | z
   ·exact Option.some.inj h▸⟨px,rfl⟩
   ·exact j0 h
   ·exact j0 h
  | _=>exact j0 h
 ·induction tg using PySem.Expr.casesOn with
  | Name x px=>rcases z with (_ | z) | z<;>exact j0 h
  | _=>exact j0 h
theorem jwV {α:Type} {l:List α} {a:α} (h:oneL l=some a):l=[a]:=by
 rcases l with _ | ⟨x,_ | ⟨y,l⟩⟩
 ·exact j0 h
 ·exact congrArg (fun x=>[x]) (Option.some.inj h)
 ·exact j0 h
theorem jxA {α:Type} {l:List α} {p:α×α} (h:twoL l=some p):l=[p.1,p.2]:=by
 rcases l with _ | ⟨x,_ | ⟨y,_ | ⟨z,l⟩⟩⟩
 ·exact j0 h
 ·exact j0 h
 ·exact congrArg (fun p:α×α=>[p.1,p.2]) (Option.some.inj h)
 ·exact j0 h
theorem uL {e:Expr} {env:Env} (h:yH e=true) (v:Value):foldedSetIterable e env v=pure v:=by
 induction e using PySem.Expr.casesOn<;>first | rfl | exact Bool.noConfusion h
structure ja3 (c:Cx) (t:List Row) (G:Str→Option AV):Prop where
 fn:∀ x r,zN x t=some r→∃ a o,c.mg x=some (.ref a)∧c.H0.get? a=some o
 glob:∀ x v,G x=some v→∃ w,c.mg x=some w∧∀ σ h,VRel c σ h v w
section
variable {c:Cx} {A:Around} {m:Nat} {call:Callee} {isC:Str→Bool} {t:List Row} {G:Str→Option AV} {NT:List Str} {sc:Scope}
noncomputable def SE (c:Cx) (A:Around) (call:Callee) (NT:List Str) (sc:Scope) (e:Expr) (i:IE):Prop:=
 ∀ env ρ S v S',rE call i (kM NT ρ) S=some (v,S')→Ev c A sc env e ρ S v S'∧∀ b,truthy v=some b→Tst c A sc env e ρ S S' b
theorem se {e:Expr} {i:IE} (ht:∀ env,isTrue e env (eval e env)=(do let v ← eval e env;standAt e.pos;holding [v] (PySem.truthy v))) (h:∀ env ρ S v S',rE call i (kM NT ρ) S=some (v,S')→Ev c A sc env e ρ S v S'):SE c A call NT sc e i:=
 fun env ρ S v S' q=>⟨h env ρ S v S' q,fun b hb=>jfW (h env ρ S v S' q) (ht env) hb⟩
variable {f:Expr→Option IE}
theorem ses (ih:∀ e i,f e=some i→SE c A call NT sc e i) {env:Env} {ρ:Loc}:∀ {es:List Expr} {is:List IE} {S:St} {vs:List AV} {S':St},trs f es=some is→rEs call is (kM NT ρ) S=some (vs,S')→Evs c A sc env es ρ S vs S'
 | [],is,S,vs,S',h,q=>by obtain rfl:=Option.some.inj h;obtain ⟨rfl,rfl⟩:=Prod.mk.inj (Option.some.inj q);exact .nil
 | e::es,is,S,vs,S',h,q=>bO h fun i hi h=>mO h fun r hr h=>by
  subst h
  exact bE q fun v S1 q1 q=>mE q fun ws S2 q2 q=>pE q fun e1 e2=>e1▸e2▸.cons (ih e i hi env ρ S v S1 q1).1 (ses ih hr q2)
theorem cut_go {op:BoolOp} {b t:Bool} (h:cutB op (some b)=some t):goB op b true false=t:=by induction op using PySem.BoolOp.casesOn<;>induction b using Bool.casesOn<;>exact Option.some.inj h
theorem seB (ih:∀ e i,f e=some i→SE c A call NT sc e i) (op:BoolOp) {env:Env} {ρ:Loc}:∀ {es:List Expr} {is:List IE} {S:St} {v:AV} {S':St},trs f es=some is→jgX call is op (kM NT ρ) S=some (v,S')→
  EvB c A sc env op es ρ S v S'∧∀ b,truthy v=some b→TstB c A sc env op es ρ S S' b
 | [],is,S,v,S',h,q=>by obtain rfl:=Option.some.inj h;exact j0 q
 | [e],is,S,v,S',h,q=>bO h fun i hi h=>by
  obtain rfl:=Option.some.inj h
  exact bE q fun u S1 q1 q=>pE (Option.some.inj q) fun e1 e2=>e1▸e2▸⟨jx1 (ih e i hi env ρ S u S1 q1).1,fun b hb=>js2 ((ih e i hi env ρ S u S1 q1).2 b hb)⟩
 | e::e2::es,is,S,v,S',h,q=>bO h fun i hi h=>mO h fun r hr h=>by
  subst h
  refine bO (x:=f e2) hr fun i2 _ hr2=>mO hr2 fun r2 _ e3=>?_
  subst e3
  refine bE q fun u S1 q1 q=>oE (x:=some (u,S1)) (y:=jgX call (i2::r2) op (kM NT ρ) S1) q fun t ht q=>?_
  have j:=ih e i hi env ρ S u S1 q1
  cases hu:truthy u with
  | none=>replace ht:=hu▸ht;induction op using PySem.BoolOp.casesOn<;>exact j0 ht
  | some b=>
   rw [hu] at ht
   have ho:=cut_go ht
   induction t using Bool.casesOn with
   | true=>exact pE (Option.some.inj q) fun e1 e2=>e1▸e2▸⟨jsA j.1 hu ho,fun b' hb=>(Option.some.inj (hu.symm.trans hb))▸jqI (j.2 b hu) ho⟩
   | false=>exact ⟨evB_go j.1 hu ho (seB ih op hr q).1,fun b' hb=>jwH (j.2 b hu) ho ((seB ih op hr q).2 b' hb)⟩
theorem seI (ih:∀ e i,f e=some i→SE c A call NT sc e i) {ρ:Loc}:∀ {es:List Expr} {is:List IE} {S:St} {b:Bool} {S':St},trs f es=some is→n7 call is (kM NT ρ) S=some (b,S')→Ifs c A sc es ρ S b S'
 | [],is,S,b,S',h,q=>by obtain rfl:=Option.some.inj h;obtain ⟨rfl,rfl⟩:=Prod.mk.inj (Option.some.inj q);exact jwY
 | e::es,is,S,b,S',h,q=>bO h fun i hi h=>mO h fun r hr h=>by
  subst h
  exact bE q fun u S1 q1 q=>oE q fun t ht q=>jtT (fun cenv=>(ih e i hi cenv ρ S u S1 q1).2 t ht) (match t,q with
   | true,q=>seI ih hr q
   | false,q=>pE (Option.some.inj q) fun e1 e2=>⟨e1.symm,e2.symm⟩)
theorem seP (ih:∀ e i,f e=some i→SE c A call NT sc e i) {env:Env} {ρ:Loc} {pos:Pos}:∀ {ks:List (Option Expr)} {es:List Expr} {is:List IE} {S:St} {vs:List AV} {S':St},trKV f ks es=some is→rEs call is (kM NT ρ) S=some (vs,S')→EvP c A sc env pos ks es ρ S (pairUp vs) S'
 | [],[],is,S,vs,S',h,q=>by obtain rfl:=Option.some.inj h;obtain ⟨rfl,rfl⟩:=Prod.mk.inj (Option.some.inj q);exact .nil
 | [],_::_,_,_,_,_,h,_=>j0 h
 | none::_,_,_,_,_,_,h,_=>j0 h
 | some _::_,[],_,_,_,_,h,_=>j0 h
 | some k::ks,e::es,is,S,vs,S',h,q=>bO h fun i hi h=>bO h fun j hj h=>mO h fun r hr h=>by
  subst h
  refine bE q fun u S1 q1 q=>mE q fun ws S3 q q4=>?_
  refine bE (x:=rE call j (kM NT ρ) S1) q fun w S2 q2 q=>mE q fun xs S4 q3 q=>?_
  refine xA (Prod.mk.inj q) fun q0q q1q=>?_;obtain rfl:=q0q;obtain rfl:=q1q
  obtain ⟨rfl,rfl⟩:=Prod.mk.inj q4
  exact .cons (ih k i hi env ρ S u S1 q1).1 (ih e j hj env ρ S1 w S2 q2).1 (seP ih hr q3)
theorem seO (ih:∀ e i,f e=some i→SE c A call NT sc e i) {env:Env} {ρ:Loc} {S:St} {a:Option Int} {S':St}:∀ {o:Option Expr} {i:Option IE},trO f o=some i→rO call i (kM NT ρ) S=some (a,S')→EvO c A sc env o ρ S a S'
 | none,i,h,q=>by obtain rfl:=Option.some.inj h;obtain ⟨rfl,rfl⟩:=Prod.mk.inj (Option.some.inj q);exact jtN
 | some e,i,h,q=>mO h fun j hj h=>by
  subst h
  refine bE q fun v S1 q1 q=>mO q fun n hn q=>pE q fun e1 e2=>e1▸e2▸jvJ ?_
  induction v using AV.casesOn<;>first | exact j0 hn | skip
  obtain rfl:=(Option.some.inj hn).symm
  exact (ih e j hj env ρ S _ S1 q1).1
theorem turns_inv {p:AV→St→St→Prop} {cond':AV→St→Option (Bool×St)} {put:AV→St→Option St} {g:Option Nat} (h:∀ v S b S1 S2,cond' v S=some (b,S1)→(if b=true then put v S1 else some S1)=some S2→p v S S2):∀ {xs:List AV} {S S':St},turns cond' put g xs S=some S'→Turns p g xs S S'
 | [],S,S',q=>by obtain rfl:=Option.some.inj q;exact .nil S
 | v::xs,S,S',q=>bE q fun b S1 q1 q=>bO q fun S2 q2 q=>.cons v xs S S2 S' (h v S b S1 S2 q1 q2) (jD q).1 (turns_inv h (jD q).2)
theorem jtP {k:Nat} {u:AV} {S S':St} (h:jbQ k u S=some S'):∃ ys,S[k]? = some (.list ys)∧ys.length≤jC∧S'=S.set k (.list (ys++[u])):=
 bO h fun ys e h=>⟨ys,listAt_eq e,(jD h).1,(Option.some.inj (jD h).2).symm⟩
theorem jtU {k:Nat} {w u:AV} {S S':St} (h:jmM k w u S=some S'):∃ fl es ep ao,S[k]? = some (.dict fl es ep)∧qM fl es ep w u=some ao∧S'=S.set k ao:=
 bO h fun d e h=>mO h fun ao h1 h2=>⟨_,_,_,ao,zG e,h1,h2.symm⟩
section
variable {p:Pos} {e l:Expr} {a b x:IE} (W:Fit c) (GO:ja3 c t G) (r:Room A m) (C:w8 c A call) (hN:NT.Nodup)
include W r
theorem se_bin {op:Operator} {r':Expr} (h1:SE c A call NT sc l a) (h2:SE c A call NT sc r' b):SE c A call NT sc (.BinOp l op r' p) (.bin op a b):=se (fun _=>rfl) fun env ρ S v S' q=>
 bE q fun x S1 q1 q=>bE q fun y S2 q2 q=>ev_bin (h1 env ρ S x S1 q1).1 (h2 env ρ S1 y S2 q2).1 fun _ _=>jvZ W.base r q
omit W r in
theorem se_un {op:UnaryOp} (h1:SE c A call NT sc e a):SE c A call NT sc (.UnaryOp op e p) (.un op a):=fun env ρ S v S' q=>
 bE q fun x S1 q1 q=>mO q fun u q2 q=>pE q fun e1 e2=>e1▸e2▸⟨ev_un (h1 env ρ S x S1 q1).1 q2,fun b hb=>by
  induction op using PySem.UnaryOp.casesOn with
  | Not=>exact mO q2 fun b' q3 q4=>by obtain rfl:=q4;obtain rfl:=Option.some.inj hb;exact jw7 ((h1 env ρ S x S1 q1).2 b' q3)
  | _=>exact jfW (ev_un (h1 env ρ S x S1 q1).1 q2) rfl hb⟩
theorem se_cmp {op:CmpOp} {e2:Expr} (hn:yH e2=true) (h1:SE c A call NT sc l a) (h2:SE c A call NT sc e2 b):SE c A call NT sc (.Compare l [op] [e2] p) (.cmp op a b):=fun env ρ S v S' q=>
 bE q fun x S1 q1 q=>bE q fun y S2 q2 q=>mO q fun t q3 q=>pE q fun e1 e2=>e1▸e2▸
  ⟨ev_cmp (jj0 W.sys r) (h1 env ρ S x S1 q1).1 hn (h2 env ρ S1 y S2 q2).1 q3,fun t' ht=>Option.some.inj ht▸jwK (jj0 W.sys r) (h1 env ρ S x S1 q1).1 hn (h2 env ρ S1 y S2 q2).1 q3⟩
omit W r in
theorem jxH {op2:CmpOp} {e3:Expr} {z:IE} (h3:SE c A call NT sc e3 z) {env:Env} {ρ:Loc} {S2 S':St} {y v:AV}:∀ {t:Bool},onO none (some t) ((rE call z (kM NT ρ) S2).bind fun r=>(jO r.2 op2 y r.1).map fun u=>(AV.bool u,r.2)) (some (.bool false,S2))=some (v,S')→∃ q',v = .bool q'∧Two c A sc env op2 e3 y ρ S2 t q' S'
 | true,q=>bE (x:=rE call z (kM NT ρ) S2) q fun w S3 q4 q=>mO q fun u q5 q=>pE q fun e1 e2=>⟨u,e1.symm,w,S3,(h3 env ρ S2 w S3 q4).1,q5,e2.symm⟩
 | false,q=>pE (Option.some.inj q) fun e1 e2=>⟨false,e1.symm,rfl,e2.symm⟩
theorem jwG {op op2:CmpOp} {e2 e3:Expr} {z:IE} (hn:yH e3=true) (h1:SE c A call NT sc l a) (h2:SE c A call NT sc e2 b) (h3:SE c A call NT sc e3 z):SE c A call NT sc (.Compare l [op,op2] [e2,e3] p) (.cmp2 op op2 a b z):=fun env ρ S v S' q=>
 bE q fun x S1 q1 q=>bE q fun y S2 q2 q=>bO q fun t q3 q=>(jxH h3 q).elim fun q' h=>h.1▸
  ⟨jw3 (jj0 W.sys r) (h1 env ρ S x S1 q1).1 hn (h2 env ρ S1 y S2 q2).1 q3 h.2,fun t' ht=>Option.some.inj ht▸jtI (jj0 W.sys r) (h1 env ρ S x S1 q1).1 hn (h2 env ρ S1 y S2 q2).1 q3 h.2⟩
omit W r in
theorem se_ifx {b' o:Expr} {y z:IE} (h1:SE c A call NT sc l x) (h2:SE c A call NT sc b' y) (h3:SE c A call NT sc o z):SE c A call NT sc (.IfExp l b' o p) (.ifx x y z):=fun env ρ S v S' q=>
 bE q fun u S1 q1 q=>oE q fun s q2 q=>
  have j2:Ev c A sc env (cond s b' o) ρ S1 v S'∧∀ b,truthy v=some b→Tst c A sc env (cond s b' o) ρ S1 S' b:=match s,q with
   | true,q=>h2 env ρ S1 v S' q
   | false,q=>h3 env ρ S1 v S' q
  ⟨jvE ((h1 env ρ S u S1 q1).2 s q2) j2.1,fun b' hb=>jqP ((h1 env ρ S u S1 q1).2 s q2) (j2.2 b' hb)⟩
omit r in
theorem jvW {s:Str} (h1:SE c A call NT sc e x) (k1:zT e=true) (k2:vU s attrNames=true):SE c A call NT sc (.Attribute e s p) (.attr x s):=se (fun _=>rfl) fun env ρ S v S' q=>
 bE q fun u S1 q1 q=>mO q fun w q2 q=>pE q fun e1 e2=>e1▸e2▸jwM W.base W.attrs (h1 env ρ S u S1 q1).1 k1 (yO k2) q2
omit W in
theorem se_sub {i':Expr} {y:IE} (hn:jdN i'=true) (h1:SE c A call NT sc e x) (h2:SE c A call NT sc i' y):SE c A call NT sc (.Subscript e i' p) (.sub x y):=se (fun _=>rfl) fun env ρ S v S' q=>
 bE q fun u S1 q1 q=>bE q fun k S2 q2 q=>mO q fun w q3 q=>pE q fun e1 e2=>e1▸e2▸ev_sub r (h1 env ρ S u S1 q1).1 (h2 env ρ S1 k S2 q2).1 hn q3
omit W r in
theorem jtX (ih:∀ e i,f e=some i→SE c A call NT sc e i) {lo hi:Option Expr} {y z:Option IE} {p2:Pos} (h1:SE c A call NT sc e x) (h2:trO f lo=some y) (h3:trO f hi=some z):SE c A call NT sc (.Subscript e (.Slice lo hi none p2) p) (.slice x y z):=se (fun _=>rfl) fun env ρ S v S' q=>
 bE q fun u S1 q1 q=>bE q fun l S2 q2 q=>bE q fun h S3 q3 q=>jtK (h1 env ρ S u S1 q1).1 (seO ih h2 q2) (seO ih h3 q3) q
theorem jwB (ih:∀ e i,f e=some i→SE c A call NT sc e i) {as:List Expr} {l:List IE} {mm:Str} {ap:Pos} (hl:trs f as=some l) (h1:SE c A call NT sc e x) (k1:as.all notStar=true) (k2:zT e=true) (k3:(ap.endLine==p.line)=true) (k4:Nat.blt as.length 30=true):SE c A call NT sc (.Call (.Attribute e mm ap) as [] p) (.meth x mm l):=se (fun _=>rfl) fun env ρ S v S' q=>
 bE q fun u S1 q1 q=>bO q fun _ q2 q=>bE q fun vs S2 q3 q=>jcH W.sys r (h1 env ρ S u S1 q1).1 k2 k3 (Nat.le_of_ble_eq_true k4) k1 (gF q2) (ses ih hl q3) q
include C in
omit r in
theorem jxC (ih:∀ e i,f e=some i→SE c A call NT sc e i) {as:List Expr} {l:List IE} {x:Str} {np:Pos} (hn:wU x=true) (hk:jF sc x=some .globalImplicit) (hl:trs f as=some l) (k1:as.all notStar=true):SE c A call NT sc (.Call (.Name x np) as [] p) (.call x l):=se (fun _=>rfl) fun env ρ S v S' q=>
 bE q fun vs S1 q1 q=>(C x vs S1 v S' q).elim fun a g=>jeT W.base C rfl (jaD W.base hn hk g.1 fun σ h=>.fn x a g.1 g.2.1) k1 (ses ih hl q1) q
theorem jxQ (ih:∀ e i,f e=some i→SE c A call NT sc e i) {as:List Expr} {l:List IE} {x:Str} {np:Pos} (hk:jF sc x=some .globalImplicit) (hl:trs f as=some l) (k1:as.all notStar=true):SE c A call NT sc (.Call (.Name x np) as [] p) (.bltn x l):=se (fun _=>rfl) fun env ρ S v S' q=>
 bE q fun vs S1 q1 q=>jbP W.base W.free W.sys r hk k1 (ses ih hl q1) q
include C in
omit r in
theorem jtB (ih:∀ e i,f e=some i→SE c A call NT sc e i) {as:List Expr} {l:List IE} {o j:Expr} {pp:Pos} (hl:trs f as=some l) (h1:SE c A call NT sc (.Subscript o j pp) x) (k1:as.all notStar=true):SE c A call NT sc (.Call (.Subscript o j pp) as [] p) (.callv x l):=se (fun _=>rfl) fun env ρ S v S' q=>
 bE q fun u S1 q1 q4=>bO q4 fun y q2 q5=>bE q5 fun vs S2 q3 q6=>by
  induction u using AV.casesOn<;>first | exact j0 q2 | skip
  obtain rfl:=(Option.some.inj q2).symm
  exact jeT W.base C rfl (h1 env ρ S _ S1 q1).1 k1 (ses ih hl q3) q6
omit W r in
theorem jbF (hN:NT.Nodup) {sc':Scope} {f':Expr→Option IE} (ih':∀ e i,f' e=some i→SE c A call NT sc' e i) {el:Expr} {ifs:List Expr} {y:Str} {j k:Nat} {l:List IE} (hj:vY y NT=some j) (hl:trs f' ifs=some l) (hb:f' el=some b) {ρ:Loc} {g:Option Nat} {xs:List AV} {S S2:St}
  (q:turns (fun v S=>n7 call l ((kM NT ρ).put j v) S) (fun v S=>(rE call b ((kM NT ρ).put j v) S).bind fun u=>jbQ k u.1 u.2) g xs S=some S2):Turns (jpI c A sc' ifs el k y ρ) g xs S S2:=
 turns_inv (fun v Sa b Sb Sc g1 g2=>by
  rw [vC hN hj] at g1 g2
  exact ⟨b,Sb,seI ih' hl g1,match b,g2 with
   | false,g2=>(Option.some.inj g2).symm
   | true,g2=>bE g2 fun w Sd g3 g4=>(jtP g4).elim fun ys g=>⟨w,Sd,ys,fun cenv=>(ih' el _ hb cenv _ _ w Sd g3).1,g⟩⟩) q
include hN
theorem jrU {sc':Scope} {f':Expr→Option IE} (ih':∀ e i,f' e=some i→SE c A call NT sc' e i) {el it:Expr} {ifs:List Expr} {y:Str} {py:Pos} {j:Nat} {l:List IE} (hc:(jaF sc sc' y&&yH it)=true) (hj:vY y NT=some j) (h1:SE c A call NT sc it a) (hl:trs f' ifs=some l) (hb:f' el=some b) :
  SE c A call NT sc (.ListComp el [⟨.Name y py,it,ifs,0⟩] sc' p) (.lcomp b j a l):=se (fun _=>rfl) fun env ρ S v S' q=>
 bE q fun u S1 q1 q=>bE q fun xs g q2 q=>bO q fun _ q3 q=>mO q fun S2 q4 q=>pE q fun e1 e2=>e1▸e2▸jb9 W.sys r (ja9 (j4 hc).1) (uL (j4 hc).2) (h1 env ρ S u S1 q1).1 q2 (gF q3) (jbF hN ih' hj hl hb q4)
theorem jvM {sc':Scope} {f':Expr→Option IE} (ih':∀ e i,f' e=some i→SE c A call NT sc' e i) {ke el it:Expr} {k:IE} {ifs:List Expr} {y:Str} {py:Pos} {j:Nat} {l:List IE} (hc:(jaF sc sc' y&&yH it)=true) (hj:vY y NT=some j) (h1:SE c A call NT sc it a) (hl:trs f' ifs=some l) (hk:f' ke=some k) (hb:f' el=some b) :
  SE c A call NT sc (.DictComp ke el [⟨.Name y py,it,ifs,0⟩] sc' p) (.dcomp k b j a l):=se (fun _=>rfl) fun env ρ S v S' q=>
 bE q fun u S1 q1 q=>bE q fun xs g q2 q=>bO q fun _ q3 q=>mO q fun S2 q4 q=>pE q fun e1 e2=>e1▸e2▸jk5 W.sys r (ja9 (j4 hc).1) (uL (j4 hc).2) (h1 env ρ S u S1 q1).1 q2 (gF q3) (turns_inv (fun v Sa b Sb Sc g1 g2=>by
  rw [vC hN hj] at g1 g2
  exact ⟨b,Sb,seI ih' hl g1,match b,g2 with
   | false,g2=>(Option.some.inj g2).symm
   | true,g2=>bE g2 fun w1 Se g8 g2=>bE g2 fun w Sd g3 g4=>(jtU g4).elim fun fl g=>g.elim fun es g=>g.elim fun ep g=>g.elim fun ao g=>⟨w1,Se,w,Sd,fl,es,ep,ao,fun cenv=>(ih' ke _ hk cenv _ _ w1 Se g8).1,fun cenv=>(ih' el _ hb cenv _ _ w Sd g3).1,g⟩⟩) q4)
include GO C
omit r C hN in
theorem jvU {x:Str} (ok:wU x=true) {i:IE}:(match v9 x sc.names with
    | some .local=>(vY x NT).map .loc
    | some .cell=>(vY x NT).map .loc
    | some .free=>(vY x NT).map .loc
    | some .globalImplicit=>match zN x t with
     | some _=>some (.con (.fn x))
     | none=>(G x).map .con
    | _=>none)=some i→SE c A call NT sc (.Name x p) i:=by
 have hk:jF sc x=v9 x sc.names:=(xS x _).symm
 have loc:(∀ {env:Env} {ρ:Loc} {S:St} {v:AV},j6 x ρ=some v→Ev c A sc env (.Name x p) ρ S v S)→(vY x NT).map IE.loc=some i→SE c A call NT sc (.Name x p) i:=fun H=>jY (C:=SE c A call NT sc _) fun j hj=>se (fun _=>rfl) fun env ρ S v S' q=>
  mO q fun u q1 q=>pE q fun e1 e2=>e1▸e2▸H (jt1 hj▸q1)
 cases hl:v9 x sc.names with
 | none=>exact j0
 | some kd=>
  rw [hl] at hk
  induction kd using PySem.NameKind.casesOn<;>first | exact j0 | exact loc fun h=>jvN ok hk h | exact loc fun h=>jpM ok (.inl hk) h | exact loc fun h=>jpM ok (.inr hk) h | skip
  cases hr:zN x t with
  | some rw'=>exact fun h=>Option.some.inj h▸se (fun _=>rfl) fun env ρ S v S' q=>pE (Option.some.inj q) fun e1 e2=>e1▸e2▸(GO.fn x _ hr).elim fun a g=>g.elim fun o g=>jaD W.base ok hk g.1 fun σ h=>.fn x a g.1 ⟨o,g.2⟩
  | none=>exact jY (C:=SE c A call NT sc _) fun u hu=>se (fun _=>rfl) fun env ρ S v S' q=>pE (Option.some.inj q) fun e1 e2=>e1▸e2▸(GO.glob x _ hu).elim fun w g=>jaD W.base ok hk g.1 g.2
theorem kY:∀ (n:Nat) (sc:Scope) (e:Expr) (i:IE),trE isC t G NT n sc e=some i→SE c A call NT sc e i
 | 0,_,_,_=>j0
 | n+1,sc,e,i=>fun h=>by
  have ok:=(j9 h).1
  replace h:=(j9 h).2
  revert h
  have ih:=kY n
  induction e using PySem.Expr.casesOn with
  | Constant k z p=>exact jY (C:=SE c A call NT sc _) fun u hu=>se (fun _=>rfl) fun env ρ S v S' q=>pE (Option.some.inj q) fun e1 e2=>e1▸e2▸jsB hu
  | Name x p=>exact jvU W GO ok
  | Tuple es z p=>exact jY (C:=SE c A call NT sc _) fun is hi=>se (fun _=>rfl) fun env ρ S v S' q=>mE q fun vs S1 q1 q=>pE q fun e1 e2=>e1▸e2▸jv8 (j4 ok).1 (j4 ok).2 (ses (ih sc) hi q1)
  | List es p=>exact jY (C:=SE c A call NT sc _) fun is hi=>se (fun _=>rfl) fun env ρ S v S' q=>mE q fun vs S1 q1 q=>pE q fun e1 e2=>e1▸e2▸jw5 (j4 ok).1 (j4 ok).2 (ses (ih sc) hi q1)
  | Dict ks es p=>exact jY (C:=SE c A call NT sc _) fun is hi=>se (fun _=>rfl) fun env ρ S v S' q=>bE q fun vs S1 q1 q=>bO (jD q).2 fun ao q3 q4=>pE (Option.some.inj q4) fun e1 e2=>e1▸e2▸jvR r (Nat.le_of_ble_eq_true ok) (seP (ih sc) hi q1) (jD q).1 q3
  | BinOp l op r' p=>exact jP fun a ha=>jY (C:=SE c A call NT sc _) fun b hb=>se_bin W r (ih sc l a ha) (ih sc r' b hb)
  | UnaryOp op e p=>exact jY (C:=SE c A call NT sc _) fun a ha=>se_un (ih sc e a ha)
  | BoolOp op es p=>exact jY (C:=SE c A call NT sc _) fun is hi env ρ S v S' q=>⟨jvX (seB (ih sc) op hi q).1,fun b hb=>jtC ((seB (ih sc) op hi q).2 b hb)⟩
  | Compare l ops es p=>
   rcases ops with _ | ⟨op,_ | ⟨op2,_ | ⟨_,_⟩⟩⟩
   ·exact j0
   ·exact jP fun e1 he h=>jwV he▸jP (fun a ha=>jY (C:=SE c A call NT sc _) fun b hb=>se_cmp W r (j9 h).1 (ih sc l a ha) (ih sc e1 b hb)) (j9 h).2
   ·exact jP fun e1 he h=>jxA he▸jP (fun a ha=>jP fun b hb=>jY (C:=SE c A call NT sc _) fun z hz=>jwG W r (j9 h).1 (ih sc l a ha) (ih sc e1.1 b hb) (ih sc e1.2 z hz)) (j9 h).2
   ·exact j0
  | IfExp t b o p=>exact jP fun x hx=>jP fun y hy=>jY (C:=SE c A call NT sc _) fun z hz=>se_ifx (ih sc t x hx) (ih sc b y hy) (ih sc o z hz)
  | Attribute o a p=>exact jY (C:=SE c A call NT sc _) fun x hx=>jvW W (ih sc o x hx) (j4 ok).1 (j4 (a:=zT o) ok).2
  | Subscript o i' p=>
   refine jP fun x hx=>?_
   induction i' using PySem.Expr.casesOn with
   | Slice lo hi st p2=>
    induction st using Option.casesOn with
    | some _=>exact j0
    | none=>exact jP fun a ha=>jY (C:=SE c A call NT sc _) fun b hb=>jtX (ih sc) (ih sc o x hx) ha hb
   | _=>exact jY (C:=SE c A call NT sc _) fun y hy=>se_sub r rfl (ih sc o x hx) (ih sc _ y hy)
  | Call g as ks p=>
   induction ks using List.casesOn with
   | cons _ _=>exact j0
   | nil=>
    refine jP fun l hl=>?_
    have k1:=(j4 ok).1
    induction g using PySem.Expr.casesOn with
    | Attribute o mm ap=>
     have k2:=j4 (a:=zT o) (j4 (a:=as.all notStar) ok).2
     exact jY (C:=SE c A call NT sc _) fun x hx=>jwB W r (ih sc) hl (ih sc o x hx) k1 k2.1 (j4 k2.2).1 (j4 (a:=ap.endLine==p.line) k2.2).2
    | Name x np=>
     intro h
     have hn:=(j9 h).1
     replace h:=(j9 h).2
     revert h
     have hk:jF sc x=v9 x sc.names:=(xS x _).symm
     cases hq:v9 x sc.names with
     | none=>exact j0
     | some kd=>
      rw [hq] at hk
      induction kd using PySem.NameKind.casesOn<;>first | exact j0 | skip
      cases isC x with
      | true=>exact fun h=>Option.some.inj h▸jxC W C (ih sc) hn hk hl k1
      | false=>exact fun h=>Option.some.inj h▸jxQ W r (ih sc) hk hl k1
    | Subscript o j pp=>exact jY (C:=SE c A call NT sc _) fun x hx=>jtB W C (ih sc) hl (ih sc _ x hx) k1
    | _=>exact j0
  | ListComp el gs sc' p=>exact jP fun g hg h=>(jdX hg).elim fun px e=>e▸jP (fun j hj=>jP fun a ha=>jP fun l hl=>jY (C:=SE c A call NT sc _) fun b hb=>jrU W r hN (ih sc') (j9 h).1 hj (ih sc _ a ha) hl hb) (j9 h).2
  | DictComp ke el gs sc' p=>exact jP fun g hg h=>(jdX hg).elim fun px e=>e▸jP (fun j hj=>jP fun a ha=>jP fun l hl=>jP fun k hk=>jY (C:=SE c A call NT sc _) fun b hb=>jvM W r hN (ih sc') (j9 h).1 hj (ih sc _ a ha) hl hk hb) (j9 h).2
  | _=>exact j0
end
end
end Mine
end
section
open PySem PySem.W PyProof.Rows PySem.Calls
namespace Mine
open Law (IE IT IS Row zN sq rE rEs rS rB need yN onO jnY jgY turns jkL bindC setC loop vU yO qY qK y4)
section
variable (isC:Str→Bool) (t:List Row) (G:Str→Option AV) (NT:List Str)
noncomputable def jhN:List Str→Option (List Nat)
 | []=>some []
 | x::r=>(vY x NT).bind fun j=>(jhN r).map (j :: ·)
noncomputable def trB (sc:Scope) (e:Expr):Option IT:=yN (u7 sc e) (match e with
 | .Name x _=>(vY x NT).map .loc
 | .Tuple ts _ _=>(targetNames ts).bind fun xs=>yN (qK xs) ((jhN NT xs).map .locs)
 | _=>none)
noncomputable def trT (n:Nat) (sc:Scope) (e:Expr):Option IT:=match e with
 | .Attribute o a _=>yN (vU a attrNames) ((trE isC t G NT n sc o).map fun x=>.attr x a)
 | .Subscript o i _=>(trE isC t G NT n sc o).bind fun x=>(trE isC t G NT n sc i).map fun y=>.sub x y
 | e=>trB NT sc e
noncomputable def isLC:Expr→Bool
 | .ListComp ..=>true
 | _=>false
noncomputable def okAsg (l e:Expr):Bool:=match l with
 | .Name _ _=>vN e||isLC e
 | .Tuple _ _ _=>jiR l e&&vN e
 | _=>true
noncomputable def nZ (sc:Scope) (e:Expr):Option Expr:=match e with
 | .Call f as ks _=>match f with
  | .Name x _=>match sq x "range" with
   | true=>match v9 x sc.names with
    | some .globalImplicit=>match as with
     | [e]=>match ks with
      | []=>yN (notStar e) (some e)
      | _=>none
     | _=>none
    | _=>none
   | false=>none
  | _=>none
 | _=>none
noncomputable def trl (f:Stmt→Option IS):List Stmt→Option (List IS)
 | []=>some []
 | s::r=>(f s).bind fun i=>(trl f r).map (i :: ·)
noncomputable def trS:Nat→Scope→Stmt→Option IS
 | 0,_,_=>none
 | n+1,sc,st=>match st with
  | .Pass _=>some .pass
  | .Raise _ _ _=>some .fail
  | .Return eo _=>match eo with
   | none=>some .ret0
   | some e=>(trE isC t G NT n sc e).map .ret
  | .Expr e _=>yN (vN e) ((trE isC t G NT n sc e).map .expr)
  | .Assign ts e _=>match ts with
   | [l]=>yN (okAsg l e) ((trE isC t G NT n sc e).bind fun y=>(trT isC t G NT n sc l).map fun x=>.set x y)
   | _=>none
  | .If c b o _=>(trE isC t G NT n sc c).bind fun x=>(trl (trS n sc) b).bind fun y=>(trl (trS n sc) o).map fun z=>.ifs x y z
  | .While c _ o _=>(trE isC t G NT n sc c).bind fun x=>(trl (trS n sc) o).map fun z=>.whil x z
  | .For l it b o _=>match o with
   | []=>yN (yH it) ((trB NT sc l).bind fun x=>(trl (trS n sc) b).bind fun y=>match nZ sc it with
    | some e=>(trE isC t G NT n sc e).map fun z=>.forN x z y
    | none=>(trE isC t G NT n sc it).map fun z=>.for_ x z y)
   | _=>none
  | .Delete ts _=>match ts with
   | [l]=>match l with
    | .Subscript o i _=>(trE isC t G NT n sc o).bind fun x=>(trE isC t G NT n sc i).map fun y=>.del x y
    | _=>none
   | _=>none
  | _=>none
end
section
variable {c:Cx} {A:Around} {m:Nat} {call:Callee} {isC:Str→Bool} {t:List Row} {G:Str→Option AV} {NT:List Str} {sc:Scope} {env:Env}
noncomputable def outF (NT:List Str):Fl→Loc→St→Law.Out
 | .next,ρ,S=>.nx (kM NT ρ) S
 | .ret v,_,S=>.rt v S
noncomputable def SS (c:Cx) (A:Around) (call:Callee) (NT:List Str) (sc:Scope) (st:Stmt) (i:IS):Prop:=
 ∀ env ρ S o,rS call i (kM NT ρ) S=some o→∃ f ρ' S',outF NT f ρ' S'=o∧RunS c A sc env (exec st env) ρ S ρ' S' (fun σ h g=>FlR c σ h f g) (fun _ _=>True)
noncomputable def SB (c:Cx) (A:Around) (call:Callee) (NT:List Str) (sc:Scope) (b:List Stmt) (is:List IS):Prop:=
 ∀ env ρ S o,rB call is (kM NT ρ) S=some o→∃ f ρ' S',outF NT f ρ' S'=o∧xX c A sc env b ρ S f ρ' S'
theorem jq9 {e:Expr} {p:Pos}:dropValue e p .none=pure .next:=by induction e using PySem.Expr.casesOn<;>rfl
variable {ρ ρ1 ρ2:Loc} {S S1 S2 S3:St} {e:Expr} {p:Pos} {v:AV} {st:Stmt} {b:List Stmt} {f:Fl}
theorem jqD (hn:vN e=true) (he:Ev c A sc env e ρ S .none S1):RunS c A sc env (exec (.Expr e p) env) ρ S ρ S1 (fun σ h g=>FlR c σ h .next g) (fun _ _=>True):=fun σ s Q E R L i k=>by
 rw [arm_exec_Expr,show interactive env=false by unfold interactive;rw [L.kind];rfl,qV hn]
 exact j3 (wpAny_standAt (j3 (m:=pure false) (wpAny_pure (RunS.bind (f:=fun v=>dropValue e p v) (W:=fun σ h g=>FlR c σ h .next g) (V:=fun σ h w=>VRel c σ h .none w) (I:=fun _ _=>True) StabX.triv (RunC.s (he.pre fun σ h _ i=>i.1))
  (fun w=>RunS.by (p:=w = .none) (fun σ h _ i=>by obtain rfl:=i.2.none';rfl) fun hw=>hw▸jq9▸RunS.pure fun _ _ _=>trivial) σ s Q E R L trivial k))))
theorem jxU {t':Expr} {o:List Stmt} {x:Bool} (ht:Tst c A sc env t' ρ S S1 x) (hb:xX c A sc env (cond x b o) ρ S1 f ρ2 S2):RunS c A sc env (exec (.If t' b o p) env) ρ S ρ2 S2 (fun σ h g=>FlR c σ h f g) (fun _ _=>True):=by
 rw [arm_exec_If]
 exact RunS.at (RunS.bind (V:=fun _ _ z=>z=x) StabX.triv (RunC.s (ht.pre fun σ h _ i=>i.1)) fun z=>RunS.by (p:=z=x) (fun σ h _ i=>i.2) fun hz=>by
  subst hz
  induction z using Bool.casesOn<;>exact RunS.pre hb fun _ _ _ _=>trivial)
theorem jrZ (he:Ev c A sc env e ρ S v S1):RunS c A sc env (exec (.Return (some e) p) env) ρ S ρ S1 (fun σ h g=>FlR c σ h (.ret v) g) (fun _ _=>True):=by
 rw [arm_exec_Return]
 exact RunS.at (RunS.bind (t:=eval e env) (f:=fun x=>pure (Flow.ret x)) (V:=fun σ h w=>VRel c σ h v w) StabX.triv (RunC.s (he.pre fun σ h _ i=>i.1)) fun w=>RunS.pure fun _ _ i=>i.2)
theorem jq4 {rest:List Stmt} (h1:RunS c A sc env (exec st env) ρ S ρ1 S1 (fun σ h g=>FlR c σ h .next g) (fun _ _=>True)) (h2:xX c A sc env rest ρ1 S1 f ρ2 S2):xX c A sc env (st::rest) ρ S f ρ2 S2:=
 RunS.bind (t:=exec st env) (f:=fun g=>match g with | .next=>execs rest env | f=>pure f) (V:=fun σ h g=>FlR c σ h .next g) StabX.triv h1 fun g=>RunS.by (p:=g = .next) (fun σ h _ i=>by induction g using PySem.Flow.casesOn<;>first | rfl | exact i.2.elim) fun hg=>by
  subst hg
  exact RunS.pre h2 fun _ _ _ _=>trivial
theorem ju3 {rest:List Stmt} (h1:RunS c A sc env (exec st env) ρ S ρ1 S1 (fun σ h g=>FlR c σ h (.ret v) g) (fun _ _=>True)):xX c A sc env (st::rest) ρ S (.ret v) ρ1 S1:=
 RunS.bind (t:=exec st env) (f:=fun g=>match g with | .next=>execs rest env | f=>pure f) (V:=fun σ h g=>FlR c σ h (.ret v) g) StabX.triv h1 fun g=>RunS.by (p:=∃ w,g = .ret w) (fun σ h _ i=>by induction g using PySem.Flow.casesOn<;>first | exact ⟨_,rfl⟩ | exact i.2.elim) fun ⟨w,hg⟩=>by
  subst hg
  exact RunS.pure fun _ _ i=>i.2
variable {g:Stmt→Option IS}
theorem jhB (ih:∀ st i,g st=some i→SS c A call NT sc st i):∀ {b:List Stmt} {is:List IS},trl g b=some is→SB c A call NT sc b is
 | [],is,h=>by obtain rfl:=Option.some.inj h;exact fun env ρ S o q=>⟨.next,ρ,S,Option.some.inj q,RunS.pure fun _ _ _=>trivial⟩
 | st::r,is,h=>bO h fun i hi h=>mO h fun is' hr h=>by
  subst h
  refine fun env ρ S o q=>bO (x:=rS call i (kM NT ρ) S) q fun o1 q1 q=>(ih st i hi env ρ S o1 q1).elim fun f1 g=>g.elim fun ρ1 g=>g.elim fun S1 g=>?_
  rw [← g.1] at q
  rcases f1 with _ | u
  ·exact (jhB ih hr env ρ1 S1 o q).elim fun f2 g'=>g'.elim fun ρ2 g'=>g'.elim fun S2 g'=>⟨f2,ρ2,S2,g'.1,jq4 g.2 g'.2⟩
  ·exact ⟨.ret u,ρ1,S1,Option.some.inj q,ju3 g.2⟩
theorem gV (hN:NT.Nodup):∀ {xs:List Str} {is:List Nat} {vs:List AV} {ρ:Loc} {e2:Law.Ev},jhN NT xs=some is→jkL is vs (kM NT ρ)=some e2→xs.length=vs.length∧kM NT (putAll xs vs ρ)=e2
 | [],is,[],ρ,e2,h,q=>by obtain rfl:=Option.some.inj h;exact ⟨rfl,Option.some.inj q⟩
 | [],is,_::_,ρ,e2,h,q=>by obtain rfl:=Option.some.inj h;exact j0 q
 | x::xs,is,[],ρ,e2,h,q=>bO h fun j hj h=>mO h fun js hjs h=>by subst h;exact j0 q
 | x::xs,is,v::vs,ρ,e2,h,q=>bO h fun j hj h=>mO h fun js hjs h=>by
  subst h
  have q:jkL js vs ((kM NT ρ).put j v)=some e2:=q
  rw [vC hN hj] at q
  exact ⟨congrArg (· + 1) (gV hN hjs q).1,(gV (ρ:=jA x v ρ) hN hjs q).2⟩
theorem jxP (hN:NT.Nodup) {i:IT} {e2:Law.Ev} (h:trB NT sc e=some i) (q:bindC i v (kM NT ρ) S=some e2):u7 sc e=true∧∃ ρ1,Binds e v ρ S ρ1∧kM NT ρ1=e2:=by
 refine ⟨(j9 h).1,?_⟩
 replace h:=(j9 h).2
 induction e using PySem.Expr.casesOn with
 | Name x p=>
  exact mO h fun j hj h=>by
   subst h
   exact ⟨_,.name x p rfl,(vC hN hj).symm.trans (Option.some.inj q)⟩
 | Tuple ts z p=>
  exact bO h fun xs hx h=>mO (j9 h).2 fun is hi h=>by
   subst h
   exact bO q fun vs hv q=>⟨_,.tuple ts z p xs vs rfl hx hv (gV hN hi q).1,(gV hN hi q).2⟩
 | _=>exact j0 h
theorem jhL (hN:NT.Nodup) {l:Expr} {i:IT} (hl:trB NT sc l=some i) {is:List IS} (hb:SB c A call NT sc b is) {gd:Option Nat}:∀ {xs:List AV} {ρ:Loc} {S:St} {o:Law.Out},loop (fun e S=>rB call is e S) i gd xs (kM NT ρ) S=some o→
  ∃ f ρ' S',outF NT f ρ' S'=o∧ForR (Binds l) (xX c A sc env b) gd xs ρ S f ρ' S'
 | [],ρ,S,o,q=>⟨.next,ρ,S,Option.some.inj q,.nil ρ S⟩
 | v::vs,ρ,S,o,q=>bO q fun e1 q1 q=>bO q fun o1 q2 q=>(jxP hN hl q1).2.elim fun ρ1 g1=>by
  have q2:rB call is e1 S=some o1:=q2
  replace q2:=g1.2.symm▸q2
  refine (hb env ρ1 S o1 q2).elim fun f1 g=>g.elim fun ρ2 g=>g.elim fun S2 g=>?_
  rw [← g.1] at q
  rcases f1 with _ | u
  ·exact (jhL hN hl hb (jD q).2).elim fun f2 g'=>g'.elim fun ρ3 g'=>g'.elim fun S3 g'=>⟨f2,ρ3,S3,g'.1,.next v vs ρ S ρ1 ρ2 S2 f2 ρ3 S3 g1.1 g.2 (jD q).1 g'.2⟩
  ·exact ⟨.ret u,ρ2,S2,Option.some.inj q,.ret v vs ρ S ρ1 u ρ2 S2 g1.1 g.2⟩
theorem jlY {it e:Expr} (h:nZ sc it=some e):∃ x np cp,it = .Call (.Name x np) [e] [] cp∧x = "range"∧jF sc x=some .globalImplicit∧notStar e=true:=by
 induction it using PySem.Expr.casesOn<;>first | exact j0 h | skip
 rename_i f as ks cp
 induction f using PySem.Expr.casesOn<;>first | exact j0 h | skip
 rename_i x np
 have hk:jF sc x=v9 x sc.names:=(xS x _).symm
 revert h
 show (match sq x "range" with | true=>(match v9 x sc.names with | some .globalImplicit=>(match as with | [e]=>(match ks with | []=>yN (notStar e) (some e) | _=>none) | _=>none) | _=>none) | false=>none)=some e→_
 cases hx:sq x "range" with
 | false=>exact j0
 | true=>
  cases hl:v9 x sc.names with
  | none=>exact j0
  | some kd=>
   induction kd using PySem.NameKind.casesOn<;>first | exact j0 | skip
   rcases as with _ | ⟨e',_ | ⟨_,_⟩⟩
   ·exact j0
   ·induction ks using List.casesOn with
    | nil=>exact fun h=>Option.some.inj (j9 h).2▸⟨x,np,cp,rfl,Law.sq_of hx,hk.trans hl,(j9 h).1⟩
    | cons _ _=>exact j0
   ·exact j0
end
end Mine
end
section
open PySem PySem.W PyProof.Rows PySem.Calls
namespace Mine
open Law (IE IT IS Row zN sq rE rEs rS rB need yN onO jnY jgY turns jkL bindC setC loop vU yO qY qK y4)
section
variable {c:Cx} {A:Around} {m n:Nat} {call:Callee} {isC:Str→Bool} {t:List Row} {G:Str→Option AV} {NT:List Str} {sc:Scope} {e l:Expr} {p:Pos} {x:IT} {y:IE}
variable (W:Fit c) (GO:ja3 c t G) (r:Room A m) (C:w8 c A call) (hN:NT.Nodup)
theorem jvO (hx:trT isC t G NT n sc l=some x):(∃ ob a pa,l = .Attribute ob a pa)∨(∃ ob i pa,l = .Subscript ob i pa)∨(∃ z pa,l = .Name z pa)∨∃ ts k pa,l = .Tuple ts k pa:=by
 induction l using PySem.Expr.casesOn with
 | Attribute ob a pa=>exact .inl ⟨_,_,_,rfl⟩
 | Subscript ob i pa=>exact .inr (.inl ⟨_,_,_,rfl⟩)
 | Name z pa=>exact .inr (.inr (.inl ⟨_,_,rfl⟩))
 | Tuple ts k pa=>exact .inr (.inr (.inr ⟨_,_,_,rfl⟩))
 | _=>exact j0 hx
theorem jwT (h:isLC e=true):∃ a b s p,e = .ListComp a b s p:=by
 induction e using PySem.Expr.casesOn with
 | ListComp a b s p=>exact ⟨_,_,_,_,rfl⟩
 | _=>exact Bool.noConfusion h
theorem mP {o:Law.Out} {ρ ρ':Loc} {S S':St} {q':Law.Ev×St} {env:Env} {st:Stmt} (e1:(kM NT ρ',S')=q') (q:Law.Out.nx q'.1 q'.2=o) (R:RunS c A sc env (exec st env) ρ S ρ' S' (fun σ h g=>FlR c σ h .next g) (fun _ _=>True)) :
  ∃ f ρ' S',outF NT f ρ' S'=o∧RunS c A sc env (exec st env) ρ S ρ' S' (fun σ h g=>FlR c σ h f g) (fun _ _=>True):=⟨.next,ρ',S',by rw [← q,← e1];rfl,R⟩
include W GO r C hN
theorem jw4 {ob:Expr} {a:Str} {pa:Pos} {z:IE} (hy:trE isC t G NT n sc e=some y) (hz:trE isC t G NT n sc ob=some z) (ha:vU a attrNames=true):SS c A call NT sc (.Assign [.Attribute ob a pa] e p) (.set (.attr z a) y):=fun env ρ S o q=>
 bE q fun v S1 q1 q=>mO (x:=setC call (.attr z a) v (kM NT ρ) S1) q fun q' q2 q=>bE (x:=rE call z (kM NT ρ) S1) q2 fun u S3 q3 q4=>mO q4 fun S4 q5 q6=>
  mP q6 q (uV (kY W GO r C hN n sc e y hy env ρ S v S1 q1).1 (jbB rfl) rfl rfl fun w=>jkB W (kY W GO r C hN n sc ob z hz env ρ S1 u S3 q3).1 (yO ha) q5)
theorem ss_sub {ob i:Expr} {pa:Pos} {z z2:IE} (hy:trE isC t G NT n sc e=some y) (hz:trE isC t G NT n sc ob=some z) (hz2:trE isC t G NT n sc i=some z2):SS c A call NT sc (.Assign [.Subscript ob i pa] e p) (.set (.sub z z2) y):=fun env ρ S o q=>
 bE q fun v S1 q1 q=>mO (x:=setC call (.sub z z2) v (kM NT ρ) S1) q fun q' q2 q=>bE (x:=rE call z (kM NT ρ) S1) q2 fun u S3 q3 q4=>bE q4 fun k S4 q5 q6=>mO q6 fun S5 q7 q8=>
  mP q8 q (uV (kY W GO r C hN n sc e y hy env ρ S v S1 q1).1 (jbB rfl) rfl rfl fun w=>jo5 r (kY W GO r C hN n sc ob z hz env ρ S1 u S3 q3).1 (kY W GO r C hN n sc i z2 hz2 env ρ S3 k S4 q5).1 q7)
theorem ss_tup {ts:List Expr} {k:Nat} {pa:Pos} {xs:List Str} {is:List Nat} (ok:(jiR (.Tuple ts k pa) e&&vN e)=true) (hy:trE isC t G NT n sc e=some y) (ho:u7 sc (.Tuple ts k pa)=true) (h1:targetNames ts=some xs) (hd:qK xs=true) (h3:jhN NT xs=some is) :
  SS c A call NT sc (.Assign [.Tuple ts k pa] e p) (.set (.locs is) y):=fun env ρ S o q=>
 bE q fun v S1 q1 q=>mO (x:=setC call (.locs is) v (kM NT ρ) S1) q fun q' q2 q=>bO q2 fun vs q3 q4=>mO q4 fun e2 q5 q6=>
  mP ((gV hN h3 q5).2▸q6) q (assign_tuple r (kY W GO r C hN n sc e y hy env ρ S v S1 q1).1 (j4 ok).2 h1 (y4 hd) ho (j4 ok).1 q3 (gV hN h3 q5).1)
theorem jxT {z:Str} {pa:Pos} {j:Nat} (hn:vN e=true) (hy:trE isC t G NT n sc e=some y) (ho:ownName sc z=true) (hj:vY z NT=some j):SS c A call NT sc (.Assign [.Name z pa] e p) (.set (.loc j) y):=fun env ρ S o q=>
 bE q fun v S1 q1 q=>mO (x:=some ((kM NT ρ).put j v,S1)) q fun q' q2 q=>mP (vC hN hj▸Option.some.inj q2) q (uV (kY W GO r C hN n sc e y hy env ρ S v S1 q1).1 (qV hn) rfl rfl fun w=>uC ho)
theorem ss_lc {z:Str} {pa:Pos} {j:Nat} (hn:isLC e=true) (hy:trE isC t G NT n sc e=some y) (ho:ownName sc z=true) (hj:vY z NT=some j):SS c A call NT sc (.Assign [.Name z pa] e p) (.set (.loc j) y):=by
 refine xEEEE (jwT hn) fun _ _ _ _ e1=>?_
 subst e1
 induction n using Nat.casesOn with
 | zero=>exact j0 hy
 | succ n=>
  refine bO (j9 hy).2 fun gp hg hy2=>(jdX hg).elim fun px q8q=>?_
  obtain ⟨x,it,ifs⟩:=gp
  obtain rfl:=q8q
  have g2:=(j9 hy2).1
  refine bO (j9 hy2).2 fun j2 g3 h1=>bO h1 fun a g4 h1=>bO h1 fun l g5 h1=>mO h1 fun b g6 q14q=>?_;obtain rfl:=q14q
  exact fun env ρ S o qa=>bE qa fun v S1 q1 qb=>mO (x:=some ((kM NT ρ).put j v,S1)) qb fun q' q2 q=>bE (x:=rE call a (kM NT ρ) S) q1 fun u S3 q3 q7=>bE q7 fun xs g q4 q7=>bO q7 fun _ q5 q7=>mO q7 fun S4 q6 q7=>by
   refine xA (Prod.mk.inj q7) fun q0q q1q=>?_;obtain rfl:=q0q;obtain rfl:=q1q
   exact mP (vC hN hj▸Option.some.inj q2) q (jbM W.sys r ho (ja9 (j4 g2).1) (uL (j4 g2).2) (kY W GO r C hN n sc it a g4 env ρ S u S3 q3).1 q4 (gF q5) (jbF hN (kY W GO r C hN n _) g3 g5 g6 q6))
theorem ss_asg (ok:okAsg l e=true) (hy:trE isC t G NT n sc e=some y) (hx:trT isC t G NT n sc l=some x):SS c A call NT sc (.Assign [l] e p) (.set x y):=by
 rcases jvO hx with ⟨ob,a,pa,rfl⟩ | ⟨ob,i,pa,rfl⟩ | ⟨z,pa,rfl⟩ | ⟨ts,k,pa,rfl⟩
 ·exact mO (j9 hx).2 fun z hz e1=>e1▸jw4 W GO r C hN hy hz (j9 hx).1
 ·exact bO hx fun z hz hx=>mO hx fun z2 hz2 e1=>e1▸ss_sub W GO r C hN hy hz hz2
 ·exact mO (j9 hx).2 fun j hj e1=>e1▸(Bool.or_eq_true_iff.1 ok).elim (fun hn=>jxT W GO r C hN hn hy (j9 hx).1 hj) fun hn=>ss_lc W GO r C hN hn hy (j9 hx).1 hj
 ·exact bO (j9 hx).2 fun xs h1 h2=>mO (j9 h2).2 fun is h3 e1=>e1▸ss_tup W GO r C hN ok hy (j9 hx).1 h1 (j9 h2).1 h3
omit C GO in
theorem ss_for (IE:∀ e i,trE isC t G NT n sc e=some i→SE c A call NT sc e i) {b:List Stmt} {is:List IS} {it:Expr} {i:IS} (hs:yH it=true) (hl:trB NT sc l=some x) (hb:SB c A call NT sc b is):(match nZ sc it with
    | some e=>(trE isC t G NT n sc e).map fun z=>IS.forN x z is
    | none=>(trE isC t G NT n sc it).map fun z=>.for_ x z is)=some i→SS c A call NT sc (.For l it b [] p) i:=by
 have ok:=(j9 hl).1
 cases hr:nZ sc it with
 | some e=>
  refine jY (C:=SS c A call NT sc _) fun z hz env ρ S o q=>?_
  refine bE q fun v S1 q1 q=>bO q fun k q2 q=>bO q fun _ q3 q=>?_
  induction v using AV.casesOn<;>first | exact j0 q2 | skip
  obtain rfl:=(Option.some.inj q2).symm
  have hk:=of_decide_eq_true (gF q3)
  exact (jlY hr).elim fun a g=>g.elim fun np g=>g.elim fun cp g=>(jhL (A:=A) (sc:=sc) (env:=env) hN hl hb q).elim fun f u=>u.elim fun ρ' u=>u.elim fun S' u=>⟨f,ρ',S',u.1,by
   rw [g.1]
   exact jqF W r ok g.2.1 g.2.2.1 (IE e z hz env ρ S _ S1 q1).1 g.2.2.2 hk.1 hk.2 u.2⟩
 | none=>
  exact jY (C:=SS c A call NT sc _) fun z hz env ρ S o q=>bE q fun v S1 q1 q=>bE q fun xs g q2 q=>(jhL (A:=A) (sc:=sc) (env:=env) hN hl hb q).elim fun f u=>u.elim fun ρ' u=>u.elim fun S' u=>
   ⟨f,ρ',S',u.1,jxV W.sys r ok (uL hs) (IE it z hz env ρ S v S1 q1).1 q2 u.2⟩
theorem jh6:∀ (n:Nat) (st:Stmt) (i:IS),trS isC t G NT n sc st=some i→SS c A call NT sc st i
 | 0,_,_=>j0
 | n+1,st,i=>by
  have IE:=kY (NT:=NT) (isC:=isC) W GO r C hN n sc
  have IH:=jh6 n
  induction st using PySem.Stmt.casesOn with
  | Pass p=>exact fun h env ρ S o q=>⟨.next,ρ,S,by obtain rfl:=Option.some.inj h;exact Option.some.inj q,by rw [arm_exec_Pass];exact RunS.at (RunS.pure fun _ _ _=>trivial)⟩
  | Raise _ _ _=>exact fun h env ρ S o q=>by obtain rfl:=Option.some.inj h;exact j0 q
  | Return eo p=>
   induction eo using Option.casesOn with
   | none=>exact fun h env ρ S o q=>⟨.ret .none,ρ,S,by obtain rfl:=Option.some.inj h;exact Option.some.inj q,by rw [arm_exec_Return];exact RunS.at (RunS.pure fun _ _ _=>VRel.none)⟩
   | some e=>exact jY (C:=SS c A call NT sc _) fun y hy env ρ S o q=>mE q fun v S1 q1 q=>⟨.ret v,ρ,S1,q,jrZ (IE e y hy env ρ S v S1 q1).1⟩
  | Expr e p=>
   exact fun h=>mO (j9 h).2 fun y hy e1 env ρ S o q=>by
    subst e1
    exact bE q fun v S1 q1 q=>mO q fun _ q2 q=>by
     induction v using AV.casesOn<;>first | exact j0 q2 | skip
     exact ⟨.next,ρ,S1,q,jqD (j9 h).1 (IE e y hy env ρ S _ S1 q1).1⟩
  | Assign ts e p=>
   rcases ts with _ | ⟨l,_ | ⟨_,_⟩⟩
   ·exact j0
   ·exact fun h=>jP (fun y hy=>jY (C:=SS c A call NT sc _) fun x hx=>ss_asg W GO r C hN (j9 h).1 hy hx) (j9 h).2
   ·exact j0
  | If e b o p=>
   exact jP fun y hy=>jP fun bs hb=>jY (C:=SS c A call NT sc _) fun os ho env ρ S o' q=>bE q fun v S1 q1 q=>oE q fun s q2 q=>
    (match s,q with
     | true,q=>jhB IH hb env ρ S1 o' q
     | false,q=>jhB IH ho env ρ S1 o' q:∃ f ρ' S',outF NT f ρ' S'=o'∧xX c A sc env (cond s b o) ρ S1 f ρ' S').elim fun f u=>u.elim fun ρ' u=>u.elim fun S' u=>⟨f,ρ',S',u.1,jxU ((IE e y hy env ρ S v S1 q1).2 s q2) u.2⟩
  | While e b o p=>
   exact jP fun y hy=>jY (C:=SS c A call NT sc _) fun os ho env ρ S o' q=>bE q fun v S1 q1 q=>oE q fun s q2 q=>match s,q2,q with
    | true,_,q=>j0 q
    | false,q2,q=>(jhB IH ho env ρ S1 o' q).elim fun f u=>u.elim fun ρ' u=>u.elim fun S' u=>⟨f,ρ',S',u.1,jqL ((IE e y hy env ρ S v S1 q1).2 false q2) u.2⟩
  | For l it b o p=>
   induction o using List.casesOn with
   | cons _ _=>exact j0
   | nil=>exact fun h=>jP (fun x hx=>jP fun is hb=>ss_for W r hN IE (j9 h).1 hx (jhB IH hb)) (j9 h).2
  | Delete ts p=>
   rcases ts with _ | ⟨l,_ | ⟨_,_⟩⟩
   ·exact j0
   ·induction l using PySem.Expr.casesOn with
    | Subscript ob j q=>exact jP fun x hx=>jY (C:=SS c A call NT sc _) fun y hy env ρ S o q=>bE q fun u S1 q1 q=>bE q fun k S2 q2 q=>mO q fun S3 q3 q=>⟨.next,ρ,S3,q,jmS r (IE ob x hx env ρ S u S1 q1).1 (IE j y hy env ρ S1 k S2 q2).1 q3⟩
    | _=>exact j0
   ·exact j0
  | _=>exact j0
end
end Mine
end
section
open PySem PySem.W PyProof.Rows PySem.Calls
namespace Mine
open Law (IE IT IS Row zN sq rE rEs rS rB need yN vU yO qY qK y4)
section
variable {prog:Program} {w:World} {A:Around} {E:Value→Shared→Prop} {s:Shared} {R:Result→Shared→Prop}
theorem jnO {body:List Stmt} {env:Env} (h:wpC (model prog w) (A.deeper env) (execs body env) (fun f s'=>R (.ok (.ret (match f with | .ret v=>v | _=>.none))) s')
   (fun e s'=>wpC (model prog w) (A.deeper env) (leaving env e) (fun _ s''=>R (.error e) s'') (fun e' s''=>R (.error e') s'') s') s) :
  kQ (model prog w) A (.func body env) R s:=
 jI rfl (j3 (m:=point) (wpAny_point (j8 (m:=(execs body env).onRaise (leaving env)) (k7 (y5 h (fun f s' h'=>by induction f using PySem.Flow.casesOn<;>exact jE h') fun _ _ h'=>h')))))
theorem tB {a:Addr} {args:Args} {o:Obj} {fd:FuncData} {body:List Stmt} (hroom:A.depth < recursionLimit)
  (ho:s.heap.get? a=some o) (hd':o.data = .func fd) (hco:fd.scope.isCoroutine=false) (hgen:fd.scope.isGenerator=false) (hbody:fd.body = .stmts body) (hcd:s.heap.CodeRec fd.code fd.qualname)
  (h:wpAny (model prog w) A.in1 (bindArgs fd args) (fun binds s₁=>
   wpAny (model prog w) A.in1 (newFunctionEnv fd.scope fd.globals fd.closure binds (fd.qualname ++ ".<locals>.") (some a) fd.code none fd.builtins)
    (fun env s₂=>s₂.heap.NoLimit∧kQ (model prog w) A (.func body env) R s₂) (fun e s'=>R (.error e) s') s₁) (fun e s'=>R (.error e) s') s) :
  kQ (model prog w) A (.call (.ref a) args) R s:=by
 refine jI rfl ?_
 show wpC _ A.in1 (callAny (.ref a) args) _ _ s
 refine j3 (m:=load a) (wpAny_load ho ?_)
 refine jL hcd fun c oc vs tq hc hoc hdc hq=>?_
 simp only [hd',callFunction,hco,hgen,hbody,hc]
 rw [hc] at h
 exact j3 (m:=field (.ref c) 1) (wpAny_field hoc hdc hq (j3 (wpAny_pure (j3 (wpAny_mono h (fun binds s₁ h₁=>j3 (wpAny_mono h₁ (fun env s₂ h₂=>j3 (wpAny_enterFrame h₂.1 hroom
  (jE (And.intro rfl h₂.2)))) fun _ _ h'=>h')) fun _ _ h'=>h')))))
end
noncomputable def uO (sc:Scope):List Str:=(cellsFrom 0 sc.names []).map (·.1)
noncomputable def jp9:NameKind→Bool
 | .cell=>true
 | _=>false
noncomputable def isOwnK:Option NameKind→Bool
 | some .local=>true
 | some .cell=>true
 | _=>false
noncomputable def jlK:NameKind→Bool
 | .local=>true
 | .cell=>true
 | .globalImplicit=>true
 | _=>false
noncomputable def isFunK:ScopeKind→Bool
 | .function=>true
 | _=>false
noncomputable def defOk (sc:Scope) (ps:List Str):Bool:=
 isFunK sc.kind&&(!sc.isCoroutine&&(!sc.isGenerator&&(ps.all (fun p=>isOwnK (v9 p sc.names))&&(sc.names.all (fun p=>jlK p.2&&(!jp9 p.2||vU p.1 (uO sc)))&&(qK (uO sc)&&!vU ".0" ps)))))
structure jtV (sc:Scope) (ps:List Str):Prop where
 kind:sc.kind = .function
 co:sc.isCoroutine=false
 gen:sc.isGenerator=false
 own:∀ p∈ps,jF sc p=some .local∨jF sc p=some .cell
 cell:∀ y,jF sc y=some .cell∨jF sc y=some .free→jF sc y=some .cell∧y∈uO sc
 cnd:(uO sc).Nodup
 dot:(".0" : Str) ∉ ps
theorem ji8 {b:Bool} (h:(!b)=true):b=false:=match b,h with
 | false,_=>rfl
theorem jrK {sc:Scope} {ps:List Str} (h:defOk sc ps=true):jtV sc ps:=by
 have h1:=j4 h
 have h2:=j4 h1.2
 have h3:=j4 h2.2
 have h4:=j4 h3.2
 have h5:=j4 h4.2
 have h6:=j4 h5.2
 refine ⟨?_,ji8 h2.1,ji8 h3.1,fun p hp=>?_,fun y hy=>?_,y4 h6.1,fun q=>Bool.false_ne_true ((ji8 h6.2).symm.trans (qY q))⟩
 ·have:=h1.1
  cases hk:sc.kind<;>rw [hk] at this<;>first | rfl | exact Bool.noConfusion this
 ·have:=List.all_eq_true.mp h4.1 p hp
  rw [xS] at this
  show sc.names.lookup p=_∨sc.names.lookup p=_
  cases hk:sc.names.lookup p with
  | none=>rw [hk] at this;exact Bool.noConfusion this
  | some k=>
   rw [hk] at this
   induction k using PySem.NameKind.casesOn<;>first | exact .inl rfl | exact .inr rfl | exact Bool.noConfusion this
 ·have key:∀ k,jF sc y=some k→jlK k=true∧(!jp9 k||vU y (uO sc))=true:=fun k hk=>j4 (List.all_eq_true.mp h5.1 _ (yC hk))
  exact hy.elim (fun hy=>⟨hy,yO (key _ hy).2⟩) fun hy=>Bool.noConfusion (key _ hy).1
theorem wJ:∀ {names:List (Str×NameKind)} {n m:Nat} {acc acc':List (Str×Addr)},acc.map (·.1)=acc'.map (·.1)→(cellsFrom n names acc).map (·.1)=(cellsFrom m names acc').map (·.1)
 | [],_,_,_,_,h=>h
 | (y,k)::r,n,m,acc,acc',h=>by
  show (if k == .cell then _ else _:List (Str×Addr)).map _=(if k == .cell then _ else _:List (Str×Addr)).map _
  cases k == .cell
  ·exact wJ h
  ·exact wJ (congrArg (y :: ·) h)
theorem uM {z:Str} {b:Addr}:∀ {l:List (Str×Addr)},(l.map (·.1)).Nodup→(z,b)∈l→l.lookup z=some b
 | (y,a)::r,nd,hm=>by
  rw [List.lookup_cons]
  rcases List.mem_cons.mp hm with e | hm'
  ·refine xA (Prod.mk.inj e) fun q0q q1q=>?_;obtain rfl:=q0q;obtain rfl:=q1q;rw [beq_self_eq_true]
  ·rw [beq_eq_false_iff_ne.2 fun (e:z=y)=>(List.nodup_cons.1 nd).1 (List.mem_map.2 ⟨_,hm',e⟩)]
   exact uM (List.nodup_cons.1 nd).2 hm'
theorem jg3 {ko:Str→Option NameKind} {y:Str} (hk:ko y=some .local):∀ {bs:List (Str×Value)} {m:Str→Option Value},(bs.map (·.1)).Nodup→bindL ko bs m y=(j6 y bs).or (m y)
 | [],m,_=>rfl
 | (x,v)::r,m,nd=>by
  show bindL ko r _ y=(if x=y then some v else j6 y r).or (m y)
  rw [jg3 hk (List.nodup_cons.1 nd).2]
  by_cases e:x=y
  ·subst e
   rw [if_pos rfl,if_pos hk,uA (List.nodup_cons.1 nd).1]
   exact if_pos rfl
  ·rw [if_neg e]
   refine congrArg _ ?_
   split
   ·exact if_neg fun q=>e q.symm
   ·rfl
theorem jh7 {ko:Str→Option NameKind} {y:Str} (hk:ko y≠some .local):∀ {bs:List (Str×Value)} {m:Str→Option Value},(bs.map (·.1)).Nodup→bindC ko bs m y=(j6 y bs).or (m y)
 | [],m,_=>rfl
 | (x,v)::r,m,nd=>by
  show bindC ko r _ y=(if x=y then some v else j6 y r).or (m y)
  rw [jh7 hk (List.nodup_cons.1 nd).2]
  by_cases e:x=y
  ·subst e
   rw [if_pos rfl,if_neg hk,uA (List.nodup_cons.1 nd).1]
   exact if_pos rfl
  ·rw [if_neg e]
   refine congrArg _ ?_
   split
   ·rfl
   ·exact if_neg fun q=>e q.symm
theorem joZ {c:Cx} {σ:Sig} {h:Heap} {y:Str} {as:List AV} {vs:List Value} (V:VRels c σ h as vs):∀ {ps:List Str},ORel? c σ h (j6 y (ps.zip as)) ((j6 y (ps.zip vs)).or none):=
 V.ind (P:=fun as vs=>∀ {ps:List Str},ORel? c σ h (j6 y (ps.zip as)) ((j6 y (ps.zip vs)).or none)) (fun {ps}=>by rw [List.zip_nil_right,List.zip_nil_right];exact .none) fun a v xs vs V _ ih ps=>by
  rcases ps with _ | ⟨p,ps⟩
  ·exact .none
  ·show ORel? c σ h (if p=y then some a else _) ((if p=y then some v else _).or none)
   by_cases q:p=y
   ·rw [if_pos q,if_pos q];exact .some V
   ·rw [if_neg q,if_neg q];exact ih
theorem jvG {ps:List Str} {as:List AV} {ex:List Str} (hN:(ps++ex).Nodup) (hl:as.length=ps.length):kM (ps++ex) (ps.zip as)=as.map some++List.replicate ex.length none:=by
 have h:=List.nodup_append.1 hN
 have key:∀ {ps:List Str} {as:List AV},ps.Nodup→as.length=ps.length→(ps.map fun x=>j6 x (ps.zip as))=as.map some:=by
  intro ps
  induction ps with
  | nil=>exact fun {as} _ hl=>by rw [List.eq_nil_of_length_eq_zero hl];rfl
  | cons p ps ih=>
   intro as nd hl
   match as,hl with
   | a::as,hl=>
    refine (List.map_cons ..).trans ((congr (congrArg List.cons (if_pos rfl)) ?_:_=some a::as.map some))
    rw [← ih (List.nodup_cons.1 nd).2 (Nat.succ.inj hl)]
    exact List.map_congr_left fun x hx=>if_neg fun (e:p=x)=>(List.nodup_cons.1 nd).1 (e▸hx)
 refine List.map_append.trans (congr (congrArg HAppend.hAppend (key h.1 hl)) ?_)
 rw [← List.map_const']
 exact List.map_congr_left fun x hx=>uA fun q=>h.2.2 x (by rw [List.map_fst_zip (Nat.le_of_eq hl.symm)] at q;exact q) x hx rfl
structure jlC (c:Cx) (isC:Str→Bool) (t:List Row) (G:Str→Option AV) (r:Row) (a:Addr) (o:Obj) (fd:FuncData) (b:List Stmt):Prop where
 ok:jtV fd.scope r.ps
 nd:(r.ps++r.ex).Nodup
 tr:trl (trS isC t G (r.ps++r.ex) 60 fd.scope) b=some r.is
 get:c.H0.get? a=some o
 data:o.data = .func fd
 body:fd.body = .stmts b
 glob:fd.globals=mainGlobals
 blt:fd.builtins=builtinsNs
 clo:fd.closure=[]
 code:c.H0.CodeRec fd.code fd.qualname
 bind:∃ dv:List Value,(∀ σ h,VRels c σ h r.ds dv)∧∀ vals:List Value,vals.length≤r.ps.length→r.ps.length≤vals.length+r.ds.length→∀ s:Shared,(∀ b o,c.H0.get? b=some o→s.heap.get? b=some o)→
  BindsTo s fd ⟨vals,[]⟩ (r.ps.zip (vals++dv.drop (vals.length+dv.length - r.ps.length)))
section
variable {c:Cx} {A:Around} {isC:Str→Bool} {t:List Row} {G:Str→Option AV} {call:Callee} {m d:Nat} {S:St} {σ:Sig} {s s':Shared} {a:Addr} {o:Obj} {fd:FuncData} {b:List Stmt} {r:Row}
theorem jwP {sc:Scope} {ps:List Str} {as:List AV} {vs:List Value} {env:Env} {gl bl:Addr} {q:Str} {fn:Option Addr} {code:Value} (D:jtV sc ps) (nd:ps.Nodup) (R:Rep c σ S s.heap) (V:VRels c σ s'.heap as vs) (hl:as.length=ps.length) (hg:gl=mainGlobals) (hb:bl=builtinsNs)
  (he:env=newEnv sc s.heap.objs.size gl (cellsFrom (s.heap.objs.size+1) sc.names []) q fn code none bl) (X:InCallC s env.locals (bindL env.kindOf (ps.zip vs) fun _=>none) env.cells (bindC env.kindOf (ps.zip vs) fun _=>none) s') :
  LocRel c σ s'.heap sc env (ps.zip as)∧∀ b∈fa env,s.heap.objs.size≤b:=by
 have eC:env.cells=cellsFrom (s.heap.objs.size+1) sc.names []:=by rw [he];rfl
 have ek:∀ y k,jF sc y=some k→env.kindOf y=some k:=fun y k h=>by rw [he];exact h
 have eL:env.locals=s.heap.objs.size:=by rw [he];rfl
 have cn:env.cells.map (·.1)=uO sc:=by rw [eC];exact wJ rfl
 have cnd:(env.cells.map (·.1)).Nodup:=cn▸D.cnd
 have fresh:∀ b∈fa env,s.heap.objs.size≤b:=fun b hb=>(List.mem_cons.mp hb).elim (fun q=>Nat.le_of_eq (q.trans eL).symm) fun q=>(List.mem_map.mp q).elim fun p hp=>hp.2▸Nat.le_of_lt (eL▸X.above p.1 p.2 hp.1)
 have zn:((ps.zip vs).map (·.1)).Nodup:=by rw [List.map_fst_zip (Nat.le_of_eq (hl.symm.trans V.length))];exact nd
 refine ⟨⟨by rw [he];exact D.kind,by rw [he];exact hg,by rw [he];exact hb,fun y=>ek y _,fun y h=>h.imp (ek y _) (ek y _),fun y=>ek y _,⟨_,X.toInCall.ns,fun y hy=>?_⟩,fun y hy=>?_,fun b hb=>?_,fun b hb q=>Nat.lt_irrefl _ (Nat.lt_of_lt_of_le (R.lt q) (fresh b hb)),fun b hb=>jc9 R (fresh b hb),?_,fun y=>ek y _,?_⟩,fresh⟩
 ·rw [jg3 (ek y _ hy) zn];exact joZ V
 ·have hc:=D.cell y hy
  refine (List.mem_map.1 (cn▸hc.2)).elim fun p hp=>?_
  have hlk:env.cells.lookup y=some p.2:=uM cnd (hp.2▸hp.1)
  refine ⟨p.2,_,hlk,X.cell y p.2 hlk,?_⟩
  rw [jh7 (fun q=>by rw [ek y _ hc.1] at q;exact PySem.NameKind.noConfusion (Option.some.inj q)) zn];exact joZ V
 ·rcases List.mem_cons.mp hb with q | q
  ·exact X.toInCall.ns.elim fun o g=>g.elim fun _ g=>g.elim fun _ g=>⟨o,q▸g.1⟩
  ·exact (List.mem_map.mp q).elim fun p hp=>(X.cell p.1 p.2 (uM cnd hp.1)).elim fun o g=>⟨o,hp.2▸g.1⟩
 ·exact List.nodup_cons.2 ⟨fun q=>(List.mem_map.mp q).elim fun p hp=>Nat.lt_irrefl _ (hp.2▸X.above p.1 p.2 hp.1),List.nodup_iff_pairwise_ne.2 (List.pairwise_map.2 X.apart)⟩
 ·exact uA fun q=>D.dot (by rw [List.map_fst_zip (Nat.le_of_eq hl.symm)] at q;exact q)
theorem jjN (W:Fit c) (GO:ja3 c t G) (D:jlC c isC t G r a o fd b) (hroom:A.depth < recursionLimit) (hr:∀ env,Room (A.deeper env) m) (C:∀ env,w8 c (A.deeper env) call) {args:List AV} {out:Law.Out}
  (hn:r.okN args.length=true) (he:rB call r.is (r.env args) S=some out) {vs:List Value} {R':Result→Shared→Prop} (R:Rep c σ S s.heap) (V:VRels c σ s.heap args vs)
  (k:∀ σ' h' t' w v S1,out.on (fun _ S1=>(AV.none,S1)) (fun v S1=>(v,S1))=(v,S1)→Rep c σ' S1 h'→Step c σ s.heap σ' h'→VRel c σ' h' v w→R' (.ok (.ret w)) { s with heap:=h',toks:=t' }) :
  kQ (model c.prog c.w) A (.call (.ref a) ⟨vs,[]⟩) R' s:=by
 refine xEA D.bind fun dv hdv hbind=>?_
 have n1:=Nat.le_of_ble_eq_true (j4 hn).1
 have n2:=Nat.le_of_ble_eq_true (j4 hn).2
 have hl:(r.full args).length=r.ps.length:=by
  rw [List.length_append,List.length_drop];lia
 have V2:VRels c σ s.heap (r.full args) (vs++dv.drop (vs.length+dv.length - r.ps.length)):=by
  rw [← V.length,← (hdv σ s.heap).length]
  exact V.append ((hdv σ s.heap).drop _)
 have key:=hbind vs (V.length▸n1) (V.length▸n2) s R.keep
 refine tB hroom (R.keep _ _ D.get) D.data D.ok.co D.ok.gen D.body (D.code.keeps R.keep) (key _ _ _ _ ?_)
 rw [D.clo]
 refine wpAny_newFunctionEnv_cells D.ok.kind (fun x hx=>(D.ok.own x.1 (List.of_mem_zip (show (x.1,x.2)∈_ from hx)).1).imp id fun q=>⟨q,?_⟩) fun env he' s' X=>?_
 ·have:x.1∈(cellsFrom (s.heap.objs.size+1) fd.scope.names []).map (·.1):=by
   rw [wJ (n:=s.heap.objs.size+1) (m:=0) (acc:=[]) (acc':=[]) rfl];exact (D.ok.cell x.1 (.inl q)).2
  refine (List.mem_map.1 this).elim fun p hp=>?_
  rw [uM (b:=p.2) (by rw [wJ (m:=0) (acc':=[]) rfl];exact D.ok.cnd) (hp.2▸hp.1)];rfl
 ·refine xEE X.toInCall.same fun h1 t1 q2q=>?_;obtain rfl:=q2q
  have keep:∀ b o,s.heap.get? b=some o→h1.get? b=some o:=X.toInCall.keep
  refine xA (R.ext keep) fun R1 T1=>?_
  have L:=jwP D.ok (List.nodup_append.1 D.nd).1 R (V2.step R T1) hl D.glob D.blt he' X
  have he:rB call r.is (kM (r.ps++r.ex) (r.ps.zip (r.full args))) S=some out:=by rw [jvG D.nd hl];exact he
  refine ⟨(W.base.lim.keeps R.keep).keeps keep,jnO ?_⟩
  exact (jhB (jh6 W GO (hr env) (C env) D.nd 60) D.tr env _ S out he).elim fun f u=>u.elim fun ρ' u=>u.elim fun S1 u=>u.2 σ { s with heap:=h1,toks:=t1 } _ _ R1 L.1 trivial fun σ2 h2 t2 g R2 T2 L2 hf=>by
   have T:Step c σ s.heap σ2 h2:=by
    refine ⟨T2.grow,fun b hb=>(T2.new b hb).imp id fun q=>?_,fun b o e hm=>T2.ext b o (keep b o e) hm fun q=>(by rw [Heap.get?_none_of_le (L.2 b q)] at e;exact j0 e),fun b o its n e d _=>T2.sq b o its n (keep b o e) d fun q=>(by rw [Heap.get?_none_of_le (L.2 b q)] at e;exact j0 e)⟩
    cases e:s.heap.get? b with
    | none=>rfl
    | some o=>rw [keep b o e] at q;exact j0 q.symm
   have u1:=u.1
   subst u1
   induction f using Fl.casesOn with
   | next=>induction g using PySem.Flow.casesOn<;>first | exact k σ2 h2 t2 _ _ _ rfl R2 T .none | exact hf.elim
   | ret v=>induction g using PySem.Flow.casesOn<;>first | exact k σ2 h2 t2 _ _ _ rfl R2 T hf | exact hf.elim
end
end Mine
end
section
open PySem PySem.W PyProof.Rows PySem.Calls
namespace Mine
open Law (IE IT IS Row zN sq rE rEs rS rB need yN)
section
variable {prog:Program} {w:World} {A:Around} {K:Frag} {C fI:Addr} {R:Result→Shared→Prop} {s:Shared}
theorem make_c {rest:List Value} (X:K.In s.heap) (hmk:makesIn K C=true) (hi:findIn K (.ref C) "__init__" = some (some (.ref fI))) (hf:typeIn K (.ref fI)=some (.type "function"))
  (hq:kQ (model prog w) (A.under (.builtin "type.__call__" ⟨.ref C::rest,[]⟩)) (.call (.ref fI) ⟨.ref (s.heap.objs.size+1)::rest,[]⟩) (InitBack (s.heap.objs.size+1) R) { s with heap:=(s.heap.push emptyDict).push (instObj C s.heap.objs.size)}) :
  kQ (model prog w) A (.call (.ref C) ⟨rest,[]⟩) R s:=by
 have Y:=makes_of (M:=model prog w) X hmk
 have Y':=Y
 have hI:=looks_findIn (M:=model prog w) X hi
 obtain ⟨⟨oc,od,cd,sl,hC,e1,e2,e4⟩,made,base,self,top,call,typ⟩:=Y
 refine jI rfl ?_
 refine j3 (wpAny_load hC ?_)
 refine j3 (call.here ?_)
 dsimp only
 rw [tc_bind]
 refine j3 (wpAny_pure (j3 (wpAny_pure ?_)))
 refine jE (a:=Fin.again (.call (.builtin "type.__call__") ⟨.ref C::rest,[]⟩)) (And.intro rfl ?_)
 refine zW (by decide +kernel) (Code.quiet_builtin _ (by decide +kernel)) entry_typeCall (zL (check_slot tc_kind tc_split typ (tc_args _ _ _) ?_))
 unfold Builtin.«type.__call__»
 refine jQ (by rfl) ?_
 have hm:Looks (model prog w) s.heap (mroOf (.ref C)) cd.mro:=((Looks.ld (part:=none) hC).andThen .now).andThen .now
 refine j3 (hm.here ?_)
 refine jQ e4 ?_
 refine j3 (made.here (j3 (wpAny_pure ?_)))
 obtain ⟨hh,g,d,t,os⟩:=s
 refine j3 (wpAny_holding (wpAny_call (new_K (init:=.ref fI) Y' hI (.inl rfl) ?_)))
 dsimp only
 have k:∀ b o,hh.get? b=some o→((hh.push emptyDict).push (instObj C hh.objs.size)).get? b=some o:=fun b o e=>Heap.get?_push_of_some _ (Heap.get?_push_of_some _ e)
 have hx:((hh.push emptyDict).push (instObj C hh.objs.size)).get? (hh.objs.size+1)=some (instObj C hh.objs.size):=by heap_get
 have t1:Looks (model prog w) ((hh.push emptyDict).push (instObj C hh.objs.size)) (typeOf (.ref (hh.objs.size+1))) (.ref C):=(Looks.ld hx).andThen .now
 have s1:=self.keeps k
 have i1:=hI.keeps k
 have b1:=(bind_fn (M:=model prog w) X (.ref (hh.objs.size+1)) hf).keeps k
 delta isInstance callSpecial? specialOf
 refine j8 (j3 (t1.here (zL (s1.here ?_))))
 refine jQ rfl ?_
 refine j8 (jG (j8 (j3 (t1.here (zL (i1.here ?_))))))
 refine jG (j3 (b1.here ?_))
 refine j8 (gJ (tU hq fun r s' z=>?_))
 rcases r with e | (v | _ | _ | _)<;>first | exact z | exact z.elim | skip
 obtain ⟨rfl,z⟩:=z
 refine jE ?_
 dsimp only
 exact jQ rfl (jE z)
end
section
variable {c:Cx} {A:Around} {isC:Str→Bool} {t:List Row} {G:Str→Option AV} {call:Callee} {m d:Nat} {S S1:St} {a C fI:Addr} {o:Obj} {fd:FuncData} {b:List Stmt} {row:Row} {x:Str}
structure ClsAt (c:Cx) (x:Str) (C fI:Addr):Prop where
 name:x∈clsNames
 glob:c.mg x=some (.ref C)
 makes:makesIn c.K C=true
 init:findIn c.K (.ref C) "__init__" = some (some (.ref fI))
 fn:typeIn c.K (.ref fI)=some (.type "function")
theorem Rep.inst {σ:Sig} {S:St} {h:Heap} (R:Rep c σ S h) (K:ClsAt c x C fI):Rep c (σ++[(h.objs.size+1,some h.objs.size)]) (S++[.inst x []]) ((h.push emptyDict).push (instObj C h.objs.size))∧
  Step c σ h (σ++[(h.objs.size+1,some h.objs.size)]) ((h.push emptyDict).push (instObj C h.objs.size)):=by
 have hk:∀ b o,h.get? b=some o→((h.push emptyDict).push (instObj C h.objs.size)).get? b=some o:=fun b o e=>Heap.get?_push_of_some _ (Heap.get?_push_of_some _ e)
 have tk:∀ a vs,IsTup h a vs→IsTup ((h.push emptyDict).push (instObj C h.objs.size)) a vs:=fun a vs t=>t.keeps hk
 have g1:((h.push emptyDict).push (instObj C h.objs.size)).get? (h.objs.size+1)=some (instObj C h.objs.size):=by
  have:((h.push emptyDict).push (instObj C h.objs.size)).get? (h.push emptyDict).objs.size=some (instObj C h.objs.size):=Heap.get?_push_size _ rfl
  rwa [Heap.size_push] at this
 have g0:((h.push emptyDict).push (instObj C h.objs.size)).get? h.objs.size=some emptyDict:=Heap.get?_push_of_some _ (Heap.get?_push_size _ rfl)
 have n0:h.get? h.objs.size=none:=Heap.get?_none_of_le (Nat.le_refl _)
 have n1:h.get? (h.objs.size+1)=none:=Heap.get?_none_of_le (Nat.le_succ _)
 have mm:jZ (σ++[(h.objs.size+1,some h.objs.size)])=jZ σ++[h.objs.size+1,h.objs.size]:=by rw [kN];simp [jZ]
 have notin:∀ b∈jZ σ,b≠h.objs.size+1∧b≠h.objs.size:=fun b hb=>by
  have:b < h.objs.size:=R.lt hb
  exact ⟨Nat.ne_of_lt (Nat.lt_succ_of_lt this),Nat.ne_of_lt this⟩
 refine ⟨⟨by simp [R.len],fun k p ao hp ha=>?_,?_,?_,fun b o e=>hk b o (R.keep b o e)⟩,⟨⟨_,rfl⟩,fun b hb=>?_,fun b o e _=>hk b o e,.ext fun b o e _=>hk b o e⟩⟩
 ·by_cases hl:k < σ.length
  ·rw [List.getElem?_append_left hl] at hp
   rw [List.getElem?_append_left (by rw [R.len];exact hl)] at ha
   have y:=R.obj k p ao hp ha
   exact y.mono tk fun b hb=>by
    refine xEA (y.live b hb) fun ob e _=>?_
    rw [e];exact hk b ob e
  ·rw [List.getElem?_append_right (Nat.not_lt.mp hl)] at hp
   rw [List.getElem?_append_right (by rw [R.len];exact Nat.not_lt.mp hl),R.len] at ha
   cases hq:k - σ.length with
   | zero=>
    rw [hq] at hp ha;simp at hp ha;subst hp;subst ha
    exact .inst x [] _ _ C [] 0 ⟨K.name,K.glob⟩ g1 g0 .nil (by decide)
   | succ n=>rw [hq] at hp;simp at hp
 ·rw [mm,List.nodup_append]
  refine ⟨R.nodup,by simp,fun b hb b' hb'=>?_⟩
  have:=notin b hb
  simp at hb'
  rcases hb' with e | e
  ·rw [e];exact this.1
  ·rw [e];exact this.2
 ·intro b hb
  rw [mm,List.mem_append] at hb
  rcases hb with hb | hb
  ·exact R.fresh b hb
  ·simp at hb
   rcases hb with e | e
   ·rw [e];exact jc9 R (Nat.le_succ _)
   ·rw [e];exact jc9 R (Nat.le_refl _)
 ·rw [mm,List.mem_append] at hb
  rcases hb with hb | hb
  ·exact .inl hb
  ·simp at hb
   rcases hb with e | e
   ·right;rw [e];exact n1
   ·right;rw [e];exact n0
theorem jtJ (W:Fit c) (GO:ja3 c t G) (K:ClsAt c x C fI) (D:jlC c isC t G row fI o fd b) (hroom:A.depth+2 < recursionLimit) (hr:∀ vs env,Room ((A.under (.builtin "type.__call__" ⟨.ref C::vs,[]⟩)).deeper env) m) (Cl:∀ vs env,w8 c ((A.under (.builtin "type.__call__" ⟨.ref C::vs,[]⟩)).deeper env) call) {args:List AV} {out:Law.Out}
  (hn:row.okN (args.length+1)=true) (he:rB call row.is (row.env (.ref S.length::args)) (S++[.inst x []])=some out) (ho:out.on (fun _ S1'=>S1'=S1) (fun v S1'=>v = .none∧S1'=S1)) {vs:List Value} {σ:Sig} {s:Shared} {R':Result→Shared→Prop} (R:Rep c σ S s.heap) (V:VRels c σ s.heap args vs)
  (k:∀ σ' h' t' w,Rep c σ' S1 h'→Step c σ s.heap σ' h'→VRel c σ' h' (.ref S.length) w→R' (.ok (.ret w)) { s with heap:=h',toks:=t' }) :
  kQ (model c.prog c.w) A (.call (.ref C) ⟨vs,[]⟩) R' s:=by
 refine xA (R.inst K) fun R1 T1=>?_
 refine make_c (jiA W.base R) K.makes K.init K.fn ?_
 have V1:VRels c (σ++[(s.heap.objs.size+1,some s.heap.objs.size)]) ((s.heap.push emptyDict).push (instObj C s.heap.objs.size)) (.ref S.length::args) (.ref (s.heap.objs.size+1)::vs):=
  .cons (.ref _ _ (some s.heap.objs.size) (by rw [R.len];exact vP)) (V.step R T1)
 refine jjN W GO D (Nat.lt_of_succ_lt hroom) (hr vs) (Cl vs) (args:=.ref S.length::args) hn he (s:={ s with heap:=(s.heap.push emptyDict).push (instObj C s.heap.objs.size)}) R1 V1 fun σ' h' t' w v S2 e R2 T2 hw=>?_
 have hv:v = .none∧S2=S1:=match out,ho,e with
  | .nx _ _,ho,e=>⟨(Prod.mk.inj e).1.symm,(Prod.mk.inj e).2.symm.trans ho⟩
  | .rt _ _,ho,e=>⟨(Prod.mk.inj e).1.symm.trans ho.1,(Prod.mk.inj e).2.symm.trans ho.2⟩
 obtain ⟨rfl,rfl⟩:=hv
 exact ⟨by obtain rfl:=hw.none';rfl,k σ' h' t' _ R2 (T1.trans T2) (match V1.step R1 T2 with | .cons a _=>a)⟩
end
end Mine
end
section
open PySem PySem.W PyProof.Rows PySem.Calls
namespace Mine
open Law (Row zN rB yN j1 jgY)
structure TabOk (c:Cx) (isC:Str→Bool) (t:List Row) (G:Str→Option AV):Prop where
 fn:∀ x r,zN x t=some r→r.isC=false→∃ a o fd b,c.mg x=some (.ref a)∧keepIn c.K (.ref a)=true∧jlC c isC t G r a o fd b
 cls:∀ x r,zN x t=some r→r.isC=true→∃ C fI o fd b,ClsAt c r.x C fI∧c.mg x=some (.ref C)∧(∃ o,c.H0.get? C=some o)∧keepIn c.K (.ref C)=true∧jlC c isC t G r fI o fd b
section
variable {c:Cx} {A:Around} {isC:Str→Bool} {t:List Row} {G:Str→Option AV} {d:Nat}
theorem Room.deeper (r:Room A (d+1)) (env:Env):Room (A.deeper env) d:=by
 refine ⟨r.hd,?_,?_⟩
 ·have:=r.depth;show A.depth+1+4*d+40 < recursionLimit;lia
 ·have:=r.units;show A.units+3+40*(d+1) < cLine;lia
theorem Room.made (r:Room A (d+1)) (C:Addr) (vs:List Value) (env:Env):Room ((A.under (.builtin "type.__call__" ⟨.ref C::vs,[]⟩)).deeper env) d:=by
 refine ⟨r.hd,?_,?_⟩
 ·have:=r.depth;show A.depth+1+1+4*d+40 < recursionLimit;lia
 ·have:=r.units;show A.units+1+3+40*(d+1) < cLine;lia
theorem jjA (W:Fit c) (GO:ja3 c t G) (T:TabOk c isC t G):∀ (d:Nat) (A:Around),Room A d→w8 c A (j1 t d)
 | 0,A,_=>fun x args S v S' h=>j0 h
 | d+1,A,r=>fun x args S v S' h=>bO h fun row hr h=>by
  have IH:=jjA W GO T d
  have dep:=r.depth
  revert h
  induction hc:row.isC using Bool.casesOn with
  | false=>
   exact fun h=>(T.fn x row hr hc).elim fun a g=>g.elim fun o g=>g.elim fun fd g=>g.elim fun b g=>⟨a,g.1,⟨o,g.2.2.get⟩,g.2.1,fun vs σ s Q E R V k=>mO (j9 h).2 fun out he e=>
    gJ (jjN W GO g.2.2 (by lia) (fun env=>r.deeper env) (fun env=>IH _ (r.deeper env)) (j9 h).1 he R V fun σ' h' t' w v' S1 e' R' T' hw=>by
     obtain ⟨rfl,rfl⟩:=Prod.mk.inj (e'.symm.trans e)
     exact k σ' h' t' w R' T' hw)⟩
  | true=>
   exact fun h=>(T.cls x row hr hc).elim fun C g=>g.elim fun fI g=>g.elim fun o g=>g.elim fun fd g=>g.elim fun b g=>⟨C,g.2.1,g.2.2.1,g.2.2.2.1,fun vs σ s Q E R V k=>bO (j9 h).2 fun out he e=>by
    have key:v = .ref S.length∧out.on (fun _ S1'=>S1'=S') (fun v S1'=>v = .none∧S1'=S'):=by
     rcases out with ⟨_,_⟩ | ⟨u,_⟩
     ·exact ⟨(Prod.mk.inj (Option.some.inj e)).1.symm,(Prod.mk.inj (Option.some.inj e)).2⟩
     ·rcases u<;>first | exact j0 e | exact ⟨(Prod.mk.inj (Option.some.inj e)).1.symm,rfl,(Prod.mk.inj (Option.some.inj e)).2⟩
    obtain ⟨rfl,ho⟩:=key
    exact gJ (jtJ W GO g.1 g.2.2.2.2 (by lia) (fun vs env=>r.made C vs env) (fun vs env=>IH _ (r.made C vs env)) (j9 h).1 he ho R V fun σ' h' t' w R' T' hw=>k σ' h' t' w R' T' hw)⟩
end
end Mine
end
set_option genInjectivity true
section
open PySem
namespace Mine.Law
noncomputable def jg8:List IS:=[.ret (.ifx (.loc 1) (.attr (.loc 0) "reply") (.attr (.loc 0) "original"))]
noncomputable def jh5:Row:=⟨"side_of",false,["talk","direction"],[],[],jg8⟩
noncomputable def zU:List IS:=[.set (.loc 3) (.tup [.attr (.loc 1) "zone",.call "side_of" [.loc 1,.loc 2]]),
  .ifs (.cmp .Eq (.meth (.attr (.loc 0) "table") "get" [.loc 3]) (.tup [.attr (.loc 1) "number",.loc 2])) [.del (.attr (.loc 0) "table") (.loc 3)] []]
noncomputable def zM:List IS:=[.ifs (.cmp .Eq (.sub (.sub (.attr (.loc 0) "flows") (.loc 3)) (.con (.int 0))) (.attr (.loc 1) "number")) [.del (.attr (.loc 0) "flows") (.loc 3)] []]
noncomputable def jaW:List IS:=[.for_ (.loc 2) (.tup [.con (.int 0),.con (.int 1)]) zU,
  .ifs (.cmp .In (.attr (.loc 1) "number") (.attr (.loc 0) "talks")) [.del (.attr (.loc 0) "talks") (.attr (.loc 1) "number")] [],
  .for_ (.loc 3) (.bltn "list" [.attr (.loc 0) "flows"]) zM,
  .set (.attr (.loc 0) "expects") (.lcomp (.loc 4) 4 (.attr (.loc 0) "expects") [.cmp .NotEq (.attr (.loc 4) "master") (.attr (.loc 1) "number")]),
  .set (.attr (.loc 1) "status") (.bin .BitOr (.attr (.loc 1) "status") (.con (.int 512)))]
noncomputable def jbA:Row:=⟨"drop_talk",false,["book","talk"],["direction","key","expect"],[],jaW⟩
noncomputable def jgD:List IS:=[.set (.loc 4) (.meth (.attr (.loc 0) "table") "get" [.tup [.loc 1,.loc 2]]),
  .ifs (.cmp .Is (.loc 4) (.con .none)) [.ret (.con .none)] [],
  .set (.loc 5) (.sub (.attr (.loc 0) "talks") (.sub (.loc 4) (.con (.int 0)))),
  .ifs (.cmp .LtE (.attr (.loc 5) "until") (.loc 3)) [.expr (.call "drop_talk" [.loc 0,.loc 5]),
  .ret (.con .none)] [],
  .ret (.tup [.loc 5,.sub (.loc 4) (.con (.int 1))])]
noncomputable def jg6:Row:=⟨"look_up",false,["book","zone","t","now"],["hit","talk"],[],jgD⟩
noncomputable def x7:List IS:=[.ifs (.cmp .LtE (.attr (.sub (.attr (.loc 0) "talks") (.loc 3)) "until") (.loc 1)) [.expr (.call "drop_talk" [.loc 0,.sub (.attr (.loc 0) "talks") (.loc 3)]),
  .set (.loc 2) (.bin .Add (.loc 2) (.con (.int 1)))] []]
noncomputable def joX:List IS:=[.set (.loc 2) (.con (.int 0)),
  .for_ (.loc 3) (.bltn "list" [.attr (.loc 0) "talks"]) x7,
  .ret (.loc 2)]
noncomputable def joW:Row:=⟨"sweep",false,["book","now"],["gone","number"],[],joX⟩
noncomputable def qC:List IS:=[.ifs (.cmp .Eq (.bin .BitAnd (.attr (.sub (.attr (.loc 0) "talks") (.loc 2)) "status") (.con (.int 4))) (.con (.int 0))) [.expr (.call "drop_talk" [.loc 0,.sub (.attr (.loc 0) "talks") (.loc 2)]),
  .ret (.con (.bool true))] []]
noncomputable def jp6:List IS:=[.ifs (.cmp .Gt (.call "sweep" [.loc 0,.loc 1]) (.con (.int 0))) [.ret (.con (.bool true))] [],
  .for_ (.loc 2) (.bltn "sorted" [.attr (.loc 0) "talks"]) qC,
  .ret (.con (.bool false))]
noncomputable def jpA:Row:=⟨"evict",false,["book","now"],["number"],[],jp6⟩
noncomputable def wR:List IS:=[.ifs (.cmp .IsNot (.call "look_up" [.loc 1,.attr (.loc 2) "zone",.loc 3,.attr (.loc 0) "now"]) (.con .none)) [.ret (.tup [.con (.str "drop"),.con (.str "")])] []]
noncomputable def jgV:List IS:=[.set (.loc 1) (.attr (.loc 0) "talks"),
  .set (.loc 2) (.attr (.loc 0) "talk"),
  .ifs (.bool .Or [.cmp .Is (.loc 2) (.con .none),.cmp .NotEq (.bin .BitAnd (.attr (.loc 2) "status") (.con (.int 8))) (.con (.int 0))]) [.ret (.con .none)] [],
  .for_ (.loc 3) (.tup [.attr (.loc 2) "original",.attr (.loc 2) "reply"]) wR,
  .set (.sub (.attr (.loc 1) "table") (.tup [.attr (.loc 2) "zone",.attr (.loc 2) "original"])) (.tup [.attr (.loc 2) "number",.con (.int 0)]),
  .set (.sub (.attr (.loc 1) "table") (.tup [.attr (.loc 2) "zone",.attr (.loc 2) "reply"])) (.tup [.attr (.loc 2) "number",.con (.int 1)]),
  .set (.sub (.attr (.loc 1) "talks") (.attr (.loc 2) "number")) (.loc 2),
  .set (.attr (.loc 2) "status") (.bin .BitOr (.attr (.loc 2) "status") (.con (.int 8))),
  .ret (.con .none)]
noncomputable def jgS:Row:=⟨"confirm",false,["scene"],["book","talk","t"],[],jgV⟩
noncomputable def jgO:List IS:=[.ret (.bool .Or [.bool .And [.cmp .Eq (.loc 0) (.con (.int 2)),.cmp .Eq (.loc 1) (.con (.int 1))],.bool .And [.cmp .Eq (.loc 0) (.con (.int 10)),.cmp .Eq (.loc 1) (.con (.int 58))]])]
noncomputable def jgZ:Row:=⟨"is_icmp",false,["nfproto","protocol"],[],[],jgO⟩
noncomputable def kX:List IS:=[.ifs (.cmp .Eq (.loc 1) (.loc 3)) [.ret (.loc 4)] [],
  .ifs (.cmp .Eq (.loc 1) (.loc 4)) [.ret (.loc 3)] []]
noncomputable def tH:List IS:=[.set (.loc 2) (.ifx (.cmp .Eq (.loc 0) (.con (.int 2))) (.tup [.tup [.con (.int 8),.con (.int 0)],.tup [.con (.int 13),.con (.int 14)],.tup [.con (.int 15),.con (.int 16)],.tup [.con (.int 17),.con (.int 18)]]) (.tup [.tup [.con (.int 128),.con (.int 129)]])),
  .for_ (.locs [3,4]) (.loc 2) kX,
  .ret (.un .USub (.con (.int 1)))]
noncomputable def tC:Row:=⟨"answer_kind",false,["nfproto","kind"],["pairs","ask","answer"],[],tH⟩
noncomputable def jl5:List IS:=[.set (.locs [2,3,4,5,6,7]) (.loc 0),
  .ifs (.un .Not (.call "is_icmp" [.loc 2,.loc 3])) [.ret (.tup [.loc 2,.loc 3,.loc 6,.loc 7,.loc 4,.loc 5])] [],
  .set (.loc 1) (.call "answer_kind" [.loc 2,.bin .RShift (.loc 7) (.con (.int 8))]),
  .ifs (.cmp .Lt (.loc 1) (.con (.int 0))) [.ret (.con .none)] [],
  .ret (.tup [.loc 2,.loc 3,.loc 6,.loc 5,.loc 4,.bin .Add (.bin .Mult (.loc 1) (.con (.int 256))) (.bin .BitAnd (.loc 7) (.con (.int 255)))])]
noncomputable def jj8:Row:=⟨"invert",false,["t"],["answer","nfproto","protocol","source","sport","target","dport"],[],jl5⟩
noncomputable def jiK:List IS:=[.ifs (.cmp .In (.loc 1) (.attr (.loc 0) "trackers")) [.ret (.sub (.attr (.loc 0) "trackers") (.loc 1))] [],
  .ifs (.cmp .In (.un .USub (.con (.int 1))) (.attr (.loc 0) "trackers")) [.ret (.sub (.attr (.loc 0) "trackers") (.un .USub (.con (.int 1))))] [],
  .fail]
noncomputable def jiT:Row:=⟨"tracker_of",false,["book","protocol"],[],[],jiK⟩
noncomputable def jlJ:List IS:=[.set (.attr (.loc 1) "since") (.loc 3),
  .ret (.con (.bool true))]
noncomputable def jm4:Row:=⟨"begin_any",false,["book","talk","packet","now"],[],[],jlJ⟩
noncomputable def juY:List IS:=[.ifs (.bool .And [.bin .BitAnd (.attr (.loc 1) "status") (.con (.int 2)),.cmp .Gt (.loc 4) (.bin .Add (.attr (.loc 1) "since") (.con (.int 2000)))]) [.set (.attr (.loc 1) "until") (.bin .Add (.loc 4) (.con (.int 120000))),
  .set (.attr (.loc 1) "status") (.bin .BitOr (.attr (.loc 1) "status") (.con (.int 4)))] [.set (.attr (.loc 1) "until") (.bin .Add (.loc 4) (.con (.int 30000)))],
  .ret (.con (.str "ok"))]
noncomputable def jvF:Row:=⟨"go_udp",false,["book","talk","packet","direction","now"],[],[],juY⟩
noncomputable def jhJ:List IS:=[.set (.attr (.loc 1) "since") (.loc 3),
  .set (.loc 4) (.ifx (.cmp .Eq (.sub (.attr (.loc 1) "original") (.con (.int 0))) (.con (.int 2))) (.tup [.con (.int 8),.con (.int 13),.con (.int 15),.con (.int 17)]) (.tup [.con (.int 128)])),
  .ret (.cmp .In (.bin .RShift (.sub (.attr (.loc 1) "original") (.con (.int 5))) (.con (.int 8))) (.loc 4))]
noncomputable def jhW:Row:=⟨"begin_icmp",false,["book","talk","packet","now"],["asks"],[],jhJ⟩
noncomputable def jqQ:List IS:=[.set (.attr (.loc 1) "until") (.bin .Add (.loc 4) (.con (.int 30000))),
  .ret (.con (.str "ok"))]
noncomputable def jqM:Row:=⟨"go_icmp",false,["book","talk","packet","direction","now"],[],[],jqQ⟩
noncomputable def jmZ:List IS:=[.set (.attr (.loc 1) "until") (.bin .Add (.loc 4) (.con (.int 600000))),
  .ret (.con (.str "ok"))]
noncomputable def jnK:Row:=⟨"go_plain",false,["book","talk","packet","direction","now"],[],[],jmZ⟩
noncomputable def jeQ:List IS:=[.ret (.dct [.con (.int 17),.dct [.con (.str "begin"),.con (.fn "begin_any"),.con (.str "go"),.con (.fn "go_udp")]])]
noncomputable def jd9:Row:=⟨"udp_trackers",false,[],[],[],jeQ⟩
noncomputable def jbS:List IS:=[.ret (.dct [.con (.int 1),.dct [.con (.str "begin"),.con (.fn "begin_icmp"),.con (.str "go"),.con (.fn "go_icmp"),.con (.str "error"),.con (.fn "error_talk")],.con (.int 58),.dct [.con (.str "begin"),.con (.fn "begin_icmp"),.con (.str "go"),.con (.fn "go_icmp"),.con (.str "error"),.con (.fn "error_or_near")]])]
noncomputable def jbZ:Row:=⟨"icmp_trackers",false,[],[],[],jbS⟩
noncomputable def jeI:List IS:=[.ret (.dct [.con (.int 6),.dct [.con (.str "begin"),.con (.fn "begin_tcp"),.con (.str "go"),.con (.fn "go_tcp")]])]
noncomputable def jdF:Row:=⟨"tcp_trackers",false,[],[],[],jeI⟩
noncomputable def jaB:List IS:=[.ret (.dct [.un .USub (.con (.int 1)),.dct [.con (.str "begin"),.con (.fn "begin_any"),.con (.str "go"),.con (.fn "go_plain")]])]
noncomputable def jaL:Row:=⟨"plain_trackers",false,[],[],[],jaB⟩
noncomputable def mU:List IS:=[.set (.sub (.loc 0) (.loc 2)) (.sub (.loc 1) (.loc 2))]
noncomputable def nV:List IS:=[.for_ (.loc 2) (.loc 1) mU]
noncomputable def je6:List IS:=[.set (.loc 0) (.dct []),
  .for_ (.loc 1) (.tup [.call "udp_trackers" [],.call "icmp_trackers" [],.call "tcp_trackers" [],.call "plain_trackers" []]) nV,
  .ret (.loc 0)]
noncomputable def jdJ:Row:=⟨"all_trackers",false,[],["trackers","group","protocol"],[],je6⟩
noncomputable def jlO:List IS:=[.set (.loc 2) (.call "TalkBook" [.loc 0,.loc 1]),
  .set (.attr (.loc 2) "trackers") (.call "all_trackers" []),
  .ret (.loc 2)]
noncomputable def jlR:Row:=⟨"new_talks",false,["most","seed"],["book"],[(.int 0)],jlO⟩
noncomputable def jeH:List IS:=[.set (.loc 2) (.lst [.con (.int 619),.con (.int 2174),.con (.int 3009024),.con (.int 4486673),.con (.int 14690434),.con (.int 140),.con (.int 269),.con (.int 13),.con (.int 14647),.con (.int 14344),.con (.int 7)]),
  .set (.loc 2) (.bin .Add (.loc 2) (.lst [.con (.int 10451331),.con (.int 85508),.con (.int 12),.con (.int 134),.con (.int 6),.con (.int 4357),.con (.int 11),.con (.int 11),.con (.int 11),.con (.int 10),.con (.int 3)])),
  .ret (.ifx (.cmp .Lt (.loc 1) (.bltn "len" [.loc 0])) (.bin .Mod (.sub (.loc 0) (.loc 1)) (.bin .Pow (.con (.int 2)) (.con (.int 40)))) (.sub (.loc 2) (.bin .Mod (.loc 1) (.con (.int 22)))))]
noncomputable def jcE:Row:=⟨"_law_draw",false,["script","k"],["usual"],[],jeH⟩
noncomputable def uE:List IS:=[.expr (.meth (.loc 2) "append" [.bin .Mod (.loc 0) (.loc 3)]),
  .set (.loc 0) (.bin .FloorDiv (.loc 0) (.loc 3))]
noncomputable def mA:List IS:=[.set (.loc 2) (.lst []),
  .for_ (.loc 3) (.loc 1) uE,
  .ret (.loc 2)]
noncomputable def m7:Row:=⟨"_law_digits",false,["n","bases"],["out","base"],[],mA⟩
noncomputable def jcS:List IS:=[.ret (.ifx (.cmp .Eq (.loc 0) (.con (.int 2))) (.bin .Add (.con (.int 3325256705)) (.loc 1)) (.bin .Add (.bin .Add (.bin .Add (.bin .Mult (.con (.int 8193)) (.bin .Pow (.con (.int 2)) (.con (.int 112)))) (.bin .Mult (.con (.int 3512)) (.bin .Pow (.con (.int 2)) (.con (.int 96))))) (.con (.int 1))) (.loc 1)))]
noncomputable def jeD:Row:=⟨"_law_host",false,["family","k"],[],[],jcS⟩
noncomputable def i_law_turned:List IS:=[.set (.loc 1) (.dct [.tup [.con (.int 2),.con (.int 1)],.dct [.con (.int 8),.con (.int 0),.con (.int 0),.con (.int 8),.con (.int 13),.con (.int 14),.con (.int 14),.con (.int 13),.con (.int 15),.con (.int 16),.con (.int 16),.con (.int 15),.con (.int 17),.con (.int 18),.con (.int 18),.con (.int 17)],.tup [.con (.int 10),.con (.int 58)],.dct [.con (.int 128),.con (.int 129),.con (.int 129),.con (.int 128)]]),
  .set (.locs [3,4,5,6,7,8]) (.loc 0),
  .ifs (.cmp .NotIn (.tup [.loc 3,.loc 4]) (.loc 1)) [.ret (.tup [.loc 3,.loc 4,.loc 7,.loc 8,.loc 5,.loc 6])] [],
  .set (.loc 2) (.meth (.sub (.loc 1) (.tup [.loc 3,.loc 4])) "get" [.bin .FloorDiv (.loc 8) (.con (.int 256))]),
  .ifs (.cmp .Is (.loc 2) (.con .none)) [.ret (.con .none)] [],
  .ret (.tup [.loc 3,.loc 4,.loc 7,.loc 6,.loc 5,.bin .Add (.bin .Mult (.con (.int 256)) (.loc 2)) (.bin .Mod (.loc 8) (.con (.int 256)))])]
noncomputable def nO:Row:=⟨"_law_turned",false,["t"],["pairs","answer","nfproto","protocol","source","sport","target","dport"],[],i_law_turned⟩
noncomputable def jqY:List IS:=[.set (.loc 5) (.bin .Add (.con (.int 5000)) (.loc 4)),
  .set (.loc 6) (.ifx (.cmp .In (.loc 0) (.tup [.con (.int 1),.con (.int 58)])) (.lst [.con (.str "begin"),.con (.str "error"),.con (.str "go")]) (.lst [.con (.str "begin"),.con (.str "go")])),
  .ifs (.cmp .Eq (.loc 0) (.con (.int 6))) [.ifs (.cmp .NotIn (.loc 2) (.tup [.con (.int 2),.con (.int 16)])) [.ret (.lst [.loc 6,.con (.bool false),.con (.int 0),.con (.str "invalid"),.con (.int 0),.loc 3,.con (.int 0)])] [],
  .set (.loc 7) (.ifx (.cmp .Eq (.loc 2) (.con (.int 2))) (.con (.int 120000)) (.ifx (.cmp .Eq (.loc 3) (.con (.int 2))) (.con (.int 432000000)) (.con (.int 300000)))),
  .ret (.lst [.loc 6,.con (.bool true),.con (.int 0),.con (.str "ok"),.bin .Add (.loc 5) (.loc 7),.loc 3,.ifx (.cmp .Eq (.loc 2) (.con (.int 2))) (.con (.int 1)) (.con (.int 3))])] [],
  .ifs (.bool .And [.cmp .Eq (.loc 0) (.con (.int 17)),.cmp .Eq (.loc 3) (.con (.int 2)),.cmp .Gt (.loc 4) (.con (.int 2000))]) [.ret (.lst [.loc 6,.con (.bool true),.con (.int 5000),.con (.str "ok"),.bin .Add (.loc 5) (.con (.int 120000)),.con (.int 6),.con (.int 0)])] [],
  .set (.loc 7) (.ifx (.cmp .In (.loc 0) (.tup [.con (.int 1),.con (.int 17),.con (.int 58)])) (.con (.int 30000)) (.con (.int 600000))),
  .set (.loc 8) (.ifx (.cmp .Eq (.loc 0) (.con (.int 1))) (.cmp .In (.loc 1) (.tup [.con (.int 8),.con (.int 13),.con (.int 15),.con (.int 17)])) (.bool .Or [.cmp .Eq (.loc 1) (.con (.int 128)),.cmp .NotEq (.loc 0) (.con (.int 58))])),
  .ret (.lst [.loc 6,.loc 8,.con (.int 5000),.con (.str "ok"),.bin .Add (.loc 5) (.loc 7),.loc 3,.con (.int 0)])]
noncomputable def jqA:Row:=⟨"_law_due",false,["protocol","kind","flags","status","gap"],["now","parts","span","may"],[],jqY⟩
noncomputable def ja2:List IS:=[.set (.loc 6) (.tup [.ifx (.cmp .Eq (.loc 1) (.con (.int 58))) (.con (.int 10)) (.con (.int 2)),.loc 1]),
  .set (.loc 7) (.call "Talk" [.con (.int 1),.bin .Add (.loc 6) (.tup [.con (.int 1),.con (.int 7),.con (.int 2),.bin .Add (.bin .Mult (.con (.int 256)) (.loc 2)) (.con (.int 3))]),.bin .Add (.loc 6) (.tup [.con (.int 2),.bin .Add (.bin .Mult (.con (.int 256)) (.loc 2)) (.con (.int 3)),.con (.int 1),.con (.int 7)]),.con (.int 0)]),
  .set (.attr (.loc 7) "status") (.loc 4),
  .set (.loc 8) (.lst [.con (.int 69),.con (.int 0),.con (.int 0),.con (.int 40),.con (.int 0),.con (.int 1),.con (.int 0),.con (.int 0),.con (.int 64),.con (.int 6),.con (.int 0),.con (.int 0),.con (.int 10),.con (.int 0),.con (.int 0),.con (.int 1),.con (.int 10),.con (.int 0),.con (.int 0),.con (.int 2)]),
  .set (.loc 8) (.bin .Add (.loc 8) (.lst [.con (.int 156),.con (.int 64),.con (.int 0),.con (.int 80),.con (.int 0),.con (.int 0),.con (.int 3),.con (.int 232),.con (.int 0),.con (.int 0),.con (.int 0),.con (.int 0),.con (.int 80),.loc 3,.con (.int 32),.con (.int 0),.con (.int 0),.con (.int 0),.con (.int 0),.con (.int 0)])),
  .set (.loc 9) (.call "Packet" [.bltn "bytes" [.loc 8],.con (.int 2048),.con (.bytes [])]),
  .set (.attr (.loc 9) "l4") (.con (.int 6)),
  .set (.attr (.loc 9) "off") (.con (.int 20)),
  .set (.loc 10) (.call "tracker_of" [.loc 0,.loc 1]),
  .set (.loc 11) (.callv (.sub (.loc 10) (.con (.str "begin"))) [.loc 0,.loc 7,.loc 9,.con (.int 5000)]),
  .set (.loc 12) (.attr (.loc 7) "since"),
  .set (.loc 13) (.callv (.sub (.loc 10) (.con (.str "go"))) [.loc 0,.loc 7,.loc 9,.con (.int 0),.bin .Add (.con (.int 5000)) (.loc 5)]),
  .ret (.lst [.bltn "sorted" [.loc 10],.loc 11,.loc 12,.loc 13,.attr (.loc 7) "until",.attr (.loc 7) "status",.attr (.loc 7) "state"])]
noncomputable def jaJ:Row:=⟨"_law_does_track",false,["book","protocol","kind","flags","status","gap"],["head","talk","octets","packet","tracker","begun","since","went"],[],ja2⟩
noncomputable def jdB:List IS:=[.set (.loc 3) (.bin .Add (.bin .Add (.bin .Add (.bin .Add (.lst [.con (.int 253)]) (.bin .Mult (.lst [.con (.int 0)]) (.con (.int 14)))) (.lst [.con (.int 1),.con (.int 253)])) (.bin .Mult (.lst [.con (.int 0)]) (.con (.int 14)))) (.lst [.con (.int 2)])),
  .set (.loc 4) (.bin .Add (.bin .Add (.lst [.con (.int 96),.con (.int 0),.con (.int 0),.con (.int 0),.con (.int 0),.con (.int 8),.con (.int 58),.con (.int 255)]) (.loc 3)) (.lst [.loc 2,.con (.int 0),.con (.int 0),.con (.int 0),.con (.int 0),.con (.int 7),.con (.int 0),.con (.int 1)])),
  .set (.loc 5) (.call "Packet" [.bltn "bytes" [.loc 4],.con (.int 34525),.con (.bytes [])]),
  .set (.attr (.loc 5) "l4") (.con (.int 58)),
  .set (.attr (.loc 5) "off") (.con (.int 40)),
  .set (.loc 6) (.call "Scene" [.loc 5,.dct [],.con (.int 5000)]),
  .set (.attr (.loc 6) "state") (.con (.int 8)),
  .set (.attr (.loc 6) "is_reply") (.con (.int 1)),
  .set (.attr (.loc 6) "talk") (.call "Talk" [.con (.int 1),.tup [],.tup [],.con (.int 0)]),
  .set (.loc 7) (.callv (.sub (.call "tracker_of" [.loc 0,.loc 1]) (.con (.str "error"))) [.loc 0,.loc 6,.con (.int 0)]),
  .set (.loc 8) (.tup [.loc 7,.attr (.loc 6) "state",.attr (.loc 6) "is_reply",.cmp .Is (.attr (.loc 6) "talk") (.con .none)]),
  .ifs (.cmp .Lt (.loc 2) (.con (.int 128))) [.ret (.cmp .Eq (.loc 8) (.tup [.con (.bool true),.con (.int 1),.con (.int 0),.con (.bool true)]))] [],
  .ret (.cmp .Eq (.loc 8) (.ifx (.bool .And [.cmp .Eq (.loc 1) (.con (.int 58)),.cmp .Gt (.loc 2) (.con (.int 129))]) (.tup [.con (.bool true),.con (.int 64),.con (.int 0),.con (.bool true)]) (.tup [.con (.bool false),.con (.int 8),.con (.int 1),.con (.bool false)])))]
noncomputable def je3:Row:=⟨"_law_does_err",false,["book","protocol","kind"],["ends","octets","packet","scene","is_done","told"],[],jdB⟩
noncomputable def kL:List IS:=[.set (.loc 9) (.call "_law_does_track" [.loc 0,.loc 3,.loc 2,.loc 5,.bin .Mult (.con (.int 2)) (.loc 6),.loc 7]),
  .ifs (.cmp .NotEq (.loc 9) (.call "_law_due" [.loc 3,.loc 2,.loc 5,.bin .Mult (.con (.int 2)) (.loc 6),.loc 7])) [.ret (.con (.bool false))] []]
noncomputable def i_law_are_trackers:List IS:=[.set (.locs [2,5,6,7,8,4]) (.call "_law_digits" [.loc 1,.lst [.con (.int 12),.con (.int 4),.con (.int 2),.con (.int 4),.con (.int 4),.con (.int 5)]]),
  .set (.loc 2) (.sub (.tup [.con (.int 8),.con (.int 0),.con (.int 13),.con (.int 14),.con (.int 15),.con (.int 16),.con (.int 17),.con (.int 18),.con (.int 128),.con (.int 129),.con (.int 135),.con (.int 1)]) (.loc 2)),
  .set (.locs [5,7]) (.tup [.sub (.tup [.con (.int 2),.con (.int 16),.con (.int 4),.con (.int 0)]) (.loc 5),.sub (.tup [.con (.int 0),.con (.int 2000),.con (.int 2001),.con (.int 90000)]) (.loc 7)]),
  .for_ (.loc 3) (.tup [.con (.int 17),.con (.int 1),.con (.int 58),.con (.int 6),.sub (.tup [.con (.int 47),.con (.int 132),.con (.int 0),.con (.int 50)]) (.loc 8)]) kL,
  .set (.loc 4) (.sub (.tup [.con (.int 128),.con (.int 135),.con (.int 1),.con (.int 143),.con (.int 4)]) (.loc 4)),
  .ifs (.bool .Or [.un .Not (.call "_law_does_err" [.loc 0,.con (.int 1),.loc 4]),.un .Not (.call "_law_does_err" [.loc 0,.con (.int 58),.loc 4])]) [.ret (.con (.bool false))] [],
  .ret (.cmp .Eq (.bltn "sorted" [.attr (.loc 0) "trackers"]) (.lst [.un .USub (.con (.int 1)),.con (.int 1),.con (.int 6),.con (.int 17),.con (.int 58)]))]
noncomputable def r_law_are_trackers:Row:=⟨"_law_are_trackers",false,["book","draw"],["kind","protocol","near","flags","bits","gap","plain","told"],[],i_law_are_trackers⟩
noncomputable def i_law_tuple:List IS:=[.set (.locs [1,2,3,4,5]) (.call "_law_digits" [.loc 0,.lst [.con (.int 6),.con (.int 3),.con (.int 3),.con (.int 3),.con (.int 6)]]),
  .set (.locs [6,7]) (.sub (.tup [.tup [.con (.int 2),.con (.int 17)],.tup [.con (.int 2),.con (.int 1)],.tup [.con (.int 10),.con (.int 58)],.tup [.con (.int 2),.con (.int 47)],.tup [.con (.int 10),.con (.int 17)],.tup [.con (.int 2),.con (.int 6)]]) (.loc 1)),
  .set (.locs [8,9]) (.tup [.call "_law_host" [.loc 6,.loc 2],.call "_law_host" [.loc 6,.loc 3]]),
  .ifs (.cmp .Eq (.loc 7) (.con (.int 47))) [.ret (.tup [.loc 6,.loc 7,.loc 8,.con (.int 0),.loc 9,.con (.int 0)])] [],
  .ifs (.cmp .In (.loc 7) (.tup [.con (.int 1),.con (.int 58)])) [.set (.loc 10) (.sub (.sub (.tup [.tup [.con (.int 8),.con (.int 0),.con (.int 13),.con (.int 16),.con (.int 17),.con (.int 11)],.tup [.con (.int 128),.con (.int 129),.con (.int 128),.con (.int 129),.con (.int 135),.con (.int 1)]]) (.bin .Sub (.loc 1) (.con (.int 1)))) (.loc 5)),
  .ret (.tup [.loc 6,.loc 7,.loc 8,.bin .Add (.con (.int 7)) (.loc 4),.loc 9,.bin .Add (.bin .Mult (.con (.int 256)) (.loc 10)) (.loc 4)])] [],
  .ret (.tup [.loc 6,.loc 7,.loc 8,.bin .Add (.con (.int 50)) (.loc 4),.loc 9,.bin .Add (.con (.int 50)) (.loc 5)])]
noncomputable def jbC:Row:=⟨"_law_tuple",false,["which"],["sort","first","second","sport","dport","family","protocol","source","target","kind"],[],i_law_tuple⟩
noncomputable def vZ:List IS:=[.set (.sub (.loc 1) (.tup [.sub (.loc 3) (.con (.str "zone")),.sub (.sub (.loc 3) (.con (.str "ends"))) (.loc 4)])) (.tup [.loc 2,.loc 4])]
noncomputable def w5:List IS:=[.set (.loc 3) (.sub (.sub (.loc 0) (.con (.str "talks"))) (.loc 2)),
  .for_ (.loc 4) (.tup [.con (.int 0),.con (.int 1)]) vZ]
noncomputable def jd5:List IS:=[.set (.loc 1) (.dct []),
  .for_ (.loc 2) (.sub (.loc 0) (.con (.str "talks"))) w5,
  .ret (.loc 1)]
noncomputable def jeK:Row:=⟨"_law_ends",false,["world"],["ends","number","row","way"],[],jd5⟩
noncomputable def jh0:List IS:=[.set (.loc 2) (.sub (.loc 1) (.con (.str "number"))),
  .set (.sub (.loc 1) (.con (.str "status"))) (.bin .Add (.bin .Mod (.sub (.loc 1) (.con (.str "status"))) (.con (.int 512))) (.con (.int 512))),
  .ifs (.cmp .In (.loc 2) (.sub (.loc 0) (.con (.str "talks")))) [.del (.sub (.loc 0) (.con (.str "talks"))) (.loc 2)] [],
  .set (.loc 3) (.sub (.loc 0) (.con (.str "flows"))),
  .set (.sub (.loc 0) (.con (.str "flows"))) (.dcomp (.loc 4) (.sub (.loc 3) (.loc 4)) 4 (.loc 3) [.cmp .NotEq (.sub (.sub (.loc 3) (.loc 4)) (.con (.int 0))) (.loc 2)]),
  .set (.sub (.loc 0) (.con (.str "hung"))) (.lcomp (.loc 5) 5 (.sub (.loc 0) (.con (.str "hung"))) [.cmp .NotEq (.sub (.loc 5) (.con (.int 0))) (.loc 2)])]
noncomputable def jgL:Row:=⟨"_law_out",false,["world","row"],["number","flows","key","one"],[],jh0⟩
noncomputable def jd0:List IS:=[.set (.loc 4) (.meth (.call "_law_ends" [.loc 0]) "get" [.tup [.loc 1,.loc 2]]),
  .ifs (.bool .And [.cmp .IsNot (.loc 4) (.con .none),.cmp .LtE (.sub (.sub (.sub (.loc 0) (.con (.str "talks"))) (.sub (.loc 4) (.con (.int 0)))) (.con (.str "until"))) (.loc 3)]) [.expr (.call "_law_out" [.loc 0,.sub (.sub (.loc 0) (.con (.str "talks"))) (.sub (.loc 4) (.con (.int 0)))]),
  .ret (.con .none)] [],
  .ret (.loc 4)]
noncomputable def jdQ:Row:=⟨"_law_find",false,["world","zone","t","now"],["hit"],[],jd0⟩
noncomputable def uS:List IS:=[.ifs (.cmp .IsNot (.call "_law_find" [.loc 0,.sub (.loc 1) (.con (.str "zone")),.loc 3,.loc 2]) (.con .none)) [.ret (.tup [.con (.str "drop"),.con (.str "")])] []]
noncomputable def jbK:List IS:=[.ifs (.cmp .Eq (.bin .Mod (.bin .FloorDiv (.sub (.loc 1) (.con (.str "status"))) (.con (.int 8))) (.con (.int 2))) (.con (.int 1))) [.ret (.con .none)] [],
  .for_ (.loc 3) (.sub (.loc 1) (.con (.str "ends"))) uS,
  .set (.sub (.sub (.loc 0) (.con (.str "talks"))) (.sub (.loc 1) (.con (.str "number")))) (.loc 1),
  .set (.sub (.loc 1) (.con (.str "status"))) (.bin .Add (.sub (.loc 1) (.con (.str "status"))) (.con (.int 8))),
  .ret (.con .none)]
noncomputable def jb6:Row:=⟨"_law_enter",false,["world","row","now"],["t"],[],jbK⟩
noncomputable def uU:List IS:=[.expr (.call "_law_out" [.loc 0,.loc 3])]
noncomputable def jaS:List IS:=[.set (.loc 2) (.lcomp (.loc 3) 3 (.sub (.loc 0) (.con (.str "rows"))) [.bool .And [.cmp .In (.sub (.loc 3) (.con (.str "number"))) (.sub (.loc 0) (.con (.str "talks"))),.cmp .LtE (.sub (.loc 3) (.con (.str "until"))) (.loc 1)]]),
  .for_ (.loc 3) (.loc 2) uU,
  .ret (.bltn "len" [.loc 2])]
noncomputable def jaR:Row:=⟨"_law_sweep",false,["world","now"],["old","row"],[],jaS⟩
noncomputable def tT:List IS:=[.ifs (.cmp .Gt (.call "_law_sweep" [.loc 0,.loc 1]) (.con (.int 0))) [.ret (.con (.bool true))] [],
  .set (.loc 2) (.lcomp (.loc 3) 3 (.sub (.loc 0) (.con (.str "talks"))) [.cmp .Eq (.bin .Mod (.bin .FloorDiv (.sub (.sub (.sub (.loc 0) (.con (.str "talks"))) (.loc 3)) (.con (.str "status"))) (.con (.int 4))) (.con (.int 2))) (.con (.int 0))]),
  .ifs (.cmp .Eq (.loc 2) (.lst [])) [.ret (.con (.bool false))] [],
  .expr (.call "_law_out" [.loc 0,.sub (.sub (.loc 0) (.con (.str "talks"))) (.bltn "min" [.loc 2])]),
  .ret (.con (.bool true))]
noncomputable def jcN:Row:=⟨"_law_room",false,["world","now"],["weak","number"],[],tT⟩
noncomputable def i_law_begin:List IS:=[.set (.locs [10,11,12,13,14]) (.call "_law_digits" [.loc 3,.lst [.con (.int 972),.con (.int 4),.con (.int 3),.con (.int 4),.con (.int 3)]]),
  .set (.loc 5) (.call "_law_tuple" [.loc 10]),
  .set (.loc 6) (.call "_law_turned" [.loc 5]),
  .ifs (.bool .Or [.cmp .NotEq (.call "invert" [.loc 5]) (.loc 6),.bool .And [.cmp .IsNot (.loc 6) (.con .none),.cmp .NotEq (.call "invert" [.loc 6]) (.loc 5)]]) [.ret (.con (.bool false))] [],
  .ifs (.cmp .Is (.loc 6) (.con .none)) [.ret (.con (.bool true))] [],
  .ifs (.cmp .Eq (.loc 11) (.con (.int 2))) [.set (.loc 6) (.bin .Add (.slice (.loc 6) none (some (.con (.int 4)))) (.tup [.call "_law_host" [.sub (.loc 5) (.con (.int 0)),.con (.int 7)],.sub (.loc 6) (.con (.int 5))]))] [.ifs (.cmp .Eq (.loc 11) (.con (.int 3))) [.set (.loc 6) (.bin .Add (.bin .Add (.slice (.loc 6) none (some (.con (.int 2)))) (.tup [.call "_law_host" [.sub (.loc 5) (.con (.int 0)),.con (.int 8)]])) (.slice (.loc 6) (some (.con (.int 3))) none))] []],
  .set (.loc 7) (.dct [.con (.str "number"),.bin .Add (.con (.int 1)) (.bin .Mod (.bin .Mult (.con (.int 7)) (.bltn "len" [.loc 2])) (.con (.int 31))),.con (.str "zone"),.bin .FloorDiv (.loc 12) (.con (.int 2)),.con (.str "ends"),.tup [.loc 5,.loc 6],.con (.str "status"),.sub (.tup [.con (.int 0),.con (.int 4),.con (.int 6)]) (.loc 14)]),
  .set (.sub (.loc 7) (.con (.str "until"))) (.bin .Add (.loc 4) (.sub (.tup [.con (.int 0),.con (.int 500),.con (.int 30000),.con (.int 600000)]) (.loc 13))),
  .set (.loc 8) (.call "Talk" [.sub (.loc 7) (.con (.str "number")),.loc 5,.loc 6,.sub (.loc 7) (.con (.str "zone"))]),
  .set (.attr (.loc 8) "status") (.sub (.loc 7) (.con (.str "status"))),
  .set (.attr (.loc 8) "until") (.sub (.loc 7) (.con (.str "until"))),
  .set (.loc 9) (.call "Scene" [.con .none,.dct [],.loc 4]),
  .set (.attr (.loc 9) "talk") (.loc 8),
  .set (.attr (.loc 9) "talks") (.loc 1),
  .expr (.meth (.loc 2) "append" [.loc 9]),
  .expr (.meth (.sub (.loc 0) (.con (.str "rows"))) "append" [.loc 7]),
  .ret (.cmp .Eq (.call "confirm" [.loc 9]) (.call "_law_enter" [.loc 0,.loc 7,.loc 4]))]
noncomputable def jbE:Row:=⟨"_law_begin",false,["world","book","scenes","rest","now"],["t","back","row","talk","scene","which","change","zone","span","bits"],[],i_law_begin⟩
noncomputable def i_law_seek:List IS:=[.set (.locs [7,8,9]) (.call "_law_digits" [.loc 2,.lst [.con (.int 16),.con (.int 2),.con (.int 6)]]),
  .set (.loc 4) (.sub (.sub (.loc 0) (.con (.str "rows"))) (.bin .Mod (.loc 7) (.bltn "len" [.sub (.loc 0) (.con (.str "rows"))]))),
  .set (.locs [10,11]) (.tup [.sub (.loc 4) (.con (.str "zone")),.sub (.sub (.loc 4) (.con (.str "ends"))) (.loc 8)]),
  .ifs (.cmp .Eq (.loc 9) (.con (.int 0))) [.set (.loc 10) (.bin .Sub (.con (.int 1)) (.loc 10))] [.ifs (.cmp .Eq (.loc 9) (.con (.int 1))) [.set (.loc 11) (.bin .Add (.bin .Add (.slice (.loc 11) none (some (.con (.int 3)))) (.tup [.bin .Add (.sub (.loc 11) (.con (.int 3))) (.con (.int 1))])) (.slice (.loc 11) (some (.con (.int 4))) none))] [.ifs (.cmp .Eq (.loc 9) (.con (.int 2))) [.set (.loc 11) (.call "_law_turned" [.loc 11])] []]],
  .set (.loc 5) (.call "look_up" [.loc 1,.loc 10,.loc 11,.loc 3]),
  .set (.loc 6) (.ifx (.cmp .Is (.loc 5) (.con .none)) (.con .none) (.tup [.attr (.sub (.loc 5) (.con (.int 0))) "number",.sub (.loc 5) (.con (.int 1))])),
  .ret (.cmp .Eq (.loc 6) (.call "_law_find" [.loc 0,.loc 10,.loc 11,.loc 3]))]
noncomputable def jeR:Row:=⟨"_law_seek",false,["world","book","rest","now"],["row","hit","told","pick","way","flaw","zone","t"],[],i_law_seek⟩
noncomputable def vW:List IS:=[.set (.sub (.attr (.loc 1) "flows") (.tup [.bin .Add (.con (.int 1)) (.loc 5),.sub (.sub (.loc 2) (.con (.str "ends"))) (.loc 5)])) (.tup [.loc 4,.loc 5,.bin .Sub (.con (.int 2)) (.loc 5)]),
  .set (.sub (.sub (.loc 0) (.con (.str "flows"))) (.tup [.bin .Add (.con (.int 1)) (.loc 5),.sub (.sub (.loc 2) (.con (.str "ends"))) (.loc 5)])) (.tup [.loc 4,.loc 5,.bin .Sub (.con (.int 2)) (.loc 5)])]
noncomputable def jd3:List IS:=[.set (.loc 4) (.sub (.loc 2) (.con (.str "number"))),
  .for_ (.loc 5) (.tup [.con (.int 0),.con (.int 1)]) vW,
  .expr (.meth (.attr (.loc 1) "expects") "append" [.call "Expect" [.loc 4,.tup [.con (.int 2),.con (.int 17),.un .USub (.con (.int 1)),.con (.int 9),.con (.int 21)],.sub (.loc 2) (.con (.str "zone")),.bin .Add (.loc 3) (.con (.int 1))]]),
  .expr (.meth (.sub (.loc 0) (.con (.str "hung"))) "append" [.tup [.loc 4,.bin .Add (.loc 3) (.con (.int 1))]])]
noncomputable def jdS:Row:=⟨"_law_hang",false,["world","book","row","now"],["number","way"],[],jd3⟩
noncomputable def jbD:List IS:=[.ifs (.bool .Or [.cmp .Lt (.loc 3) (.con (.int 6)),.cmp .Eq (.loc 2) (.lst [])]) [.ret (.call "_law_begin" [.loc 0,.loc 1,.loc 2,.loc 4,.loc 5])] [],
  .ifs (.cmp .In (.loc 3) (.tup [.con (.int 7),.con (.int 8),.con (.int 9),.con (.int 14),.con (.int 15)])) [.ret (.call "_law_seek" [.loc 0,.loc 1,.loc 4,.loc 5])] [],
  .ifs (.cmp .Eq (.loc 3) (.con (.int 10))) [.ret (.cmp .Eq (.call "sweep" [.loc 1,.loc 5]) (.call "_law_sweep" [.loc 0,.loc 5]))] [],
  .ifs (.cmp .Eq (.loc 3) (.con (.int 11))) [.ret (.cmp .Eq (.call "evict" [.loc 1,.loc 5]) (.call "_law_room" [.loc 0,.loc 5]))] [],
  .set (.loc 6) (.bin .Mod (.bin .Mod (.loc 4) (.con (.int 16))) (.bltn "len" [.loc 2])),
  .set (.loc 7) (.sub (.sub (.loc 0) (.con (.str "rows"))) (.loc 6)),
  .ifs (.cmp .Eq (.loc 3) (.con (.int 6))) [.set (.attr (.sub (.loc 2) (.loc 6)) "now") (.loc 5),
  .ret (.cmp .Eq (.call "confirm" [.sub (.loc 2) (.loc 6)]) (.call "_law_enter" [.loc 0,.loc 7,.loc 5]))] [],
  .ifs (.cmp .Eq (.loc 3) (.con (.int 12))) [.expr (.call "drop_talk" [.loc 1,.attr (.sub (.loc 2) (.loc 6)) "talk"]),
  .expr (.call "_law_out" [.loc 0,.loc 7])] [.expr (.call "_law_hang" [.loc 0,.loc 1,.loc 7,.loc 5])],
  .ret (.con (.bool true))]
noncomputable def jb8:Row:=⟨"_law_event",false,["world","book","scenes","what","rest","now"],["place","row"],[],jbD⟩
noncomputable def tK:List IS:=[.ifs (.bool .Or [.cmp .NotEq (.attr (.loc 1) "table") (.call "_law_ends" [.loc 0]),.cmp .NotEq (.bltn "sorted" [.attr (.loc 1) "talks"]) (.bltn "sorted" [.sub (.loc 0) (.con (.str "talks"))])]) [.ret (.con (.bool false))] [],
  .ret (.bool .And [.cmp .Eq (.attr (.loc 1) "flows") (.sub (.loc 0) (.con (.str "flows"))),.cmp .Eq (.lcomp (.tup [.attr (.loc 2) "master",.attr (.loc 2) "until"]) 2 (.attr (.loc 1) "expects") []) (.sub (.loc 0) (.con (.str "hung")))])]
noncomputable def tO:Row:=⟨"_law_is_book",false,["world","book"],["one"],[],tK⟩
noncomputable def zA:List IS:=[.set (.locs [4,5]) (.tup [.attr (.sub (.loc 1) (.loc 2)) "talk",.sub (.sub (.loc 0) (.con (.str "rows"))) (.loc 2)]),
  .set (.loc 3) (.lst [.attr (.loc 4) "number",.attr (.loc 4) "zone",.tup [.attr (.loc 4) "original",.attr (.loc 4) "reply"],.attr (.loc 4) "status",.attr (.loc 4) "until"]),
  .ifs (.cmp .NotEq (.loc 3) (.lst [.sub (.loc 5) (.con (.str "number")),.sub (.loc 5) (.con (.str "zone")),.sub (.loc 5) (.con (.str "ends")),.sub (.loc 5) (.con (.str "status")),.sub (.loc 5) (.con (.str "until"))])) [.ret (.con (.bool false))] [],
  .ifs (.cmp .NotEq (.lst [.attr (.loc 4) "since",.attr (.loc 4) "mark",.attr (.loc 4) "state",.attr (.loc 4) "master",.attr (.loc 4) "sides"]) (.lst [.con (.int 0),.con (.int 0),.con (.int 0),.con (.int 0),.con .none])) [.ret (.con (.bool false))] []]
noncomputable def xD:List IS:=[.forN (.loc 2) (.bltn "len" [.loc 1]) zA,
  .ret (.con (.bool true))]
noncomputable def xG:Row:=⟨"_law_are_talks",false,["world","scenes"],["k","told","talk","row"],[],xD⟩
noncomputable def jeE:List IS:=[.set (.locs [9,10,11]) (.call "_law_digits" [.call "_law_draw" [.loc 0,.bin .Add (.con (.int 2)) (.loc 6)],.lst [.con (.int 16),.con (.int 8),.bin .Pow (.con (.int 2)) (.con (.int 40))]]),
  .set (.loc 5) (.bin .Add (.loc 5) (.sub (.tup [.con (.int 0),.con (.int 1),.con (.int 499),.con (.int 500),.con (.int 29999),.con (.int 30000),.con (.int 90000),.con (.int 600000)]) (.loc 10))),
  .ifs (.bool .Or [.un .Not (.call "_law_event" [.loc 3,.loc 2,.loc 4,.loc 9,.loc 11,.loc 5]),.un .Not (.call "_law_is_book" [.loc 3,.loc 2])]) [.ret (.con (.bool false))] []]
noncomputable def i_law:List IS:=[.set (.loc 1) (.bin .Add (.con (.int 19)) (.bltn "min" [.con (.int 8),.bin .FloorDiv (.bltn "len" [.loc 0]) (.con (.int 6))])),
  .set (.locs [7,8]) (.call "_law_digits" [.call "_law_draw" [.loc 0,.con (.int 0)],.lst [.con (.int 8),.con (.int 65536)]]),
  .set (.loc 2) (.ifx (.cmp .Gt (.loc 8) (.con (.int 0))) (.call "new_talks" [.bin .Add (.con (.int 1)) (.loc 7),.loc 8]) (.call "new_talks" [.bin .Add (.con (.int 1)) (.loc 7)])),
  .ifs (.cmp .NotEq (.lst [.attr (.loc 2) "most",.attr (.loc 2) "seed",.attr (.loc 2) "tries",.attr (.loc 2) "last",.attr (.loc 2) "is_loose"]) (.lst [.bin .Add (.con (.int 1)) (.loc 7),.loc 8,.con (.int 128),.con (.int 0),.con (.bool true)])) [.ret (.con (.bool false))] [],
  .ifs (.un .Not (.call "_law_are_trackers" [.loc 2,.call "_law_draw" [.loc 0,.con (.int 1)]])) [.ret (.con (.bool false))] [],
  .set (.loc 3) (.dct [.con (.str "talks"),.dct [],.con (.str "rows"),.lst [],.con (.str "flows"),.dct [],.con (.str "hung"),.lst []]),
  .set (.loc 4) (.lst []),
  .set (.loc 5) (.con (.int 10000)),
  .forN (.loc 6) (.loc 1) jeE,
  .set (.loc 5) (.bin .Add (.loc 5) (.sub (.tup [.con (.int 0),.con (.int 500),.con (.int 30000),.con (.int 600000)]) (.bin .Mod (.call "_law_draw" [.loc 0,.bin .Add (.con (.int 2)) (.loc 1)]) (.con (.int 4))))),
  .ifs (.bool .Or [.cmp .NotEq (.call "sweep" [.loc 2,.loc 5]) (.call "_law_sweep" [.loc 3,.loc 5]),.un .Not (.call "_law_is_book" [.loc 3,.loc 2]),.cmp .NotEq (.attr (.loc 2) "last") (.con (.int 0))]) [.ret (.con (.bool false))] [],
  .ret (.call "_law_are_talks" [.loc 3,.loc 4])]
noncomputable def r_law:Row:=⟨"law",false,["script"],["many","book","world","scenes","now","k","most","seed","what","wait","rest"],[],i_law⟩
noncomputable def jdP:List IS:=[.set (.attr (.loc 7) "is_sack") (.con (.bool true)),
  .set (.attr (.loc 7) "is_liberal") (.con (.bool true))]
noncomputable def jmC:List IS:=[.set (.loc 4) (.call "segment_of" [.loc 2]),
  .ifs (.bool .Or [.cmp .Is (.loc 4) (.con .none),.un .Not (.call "flags_are_right" [.sub (.loc 4) (.con (.int 4))])]) [.ret (.con (.bool false))] [],
  .set (.loc 5) (.call "next_state" [.con (.int 0),.call "sort_of" [.sub (.loc 4) (.con (.int 4))],.con (.int 0)]),
  .ifs (.cmp .GtE (.loc 5) (.con (.int 10))) [.ret (.con (.bool false))] [],
  .set (.loc 6) (.lst [.call "Side" [],.call "Side" []]),
  .ifs (.cmp .Eq (.loc 5) (.con (.int 1))) [.expr (.call "open_side" [.sub (.loc 6) (.con (.int 0)),.loc 4,.call "end_of" [.loc 4]])] [.ifs (.attr (.loc 0) "is_loose") [.expr (.call "take_up" [.sub (.loc 6) (.con (.int 0)),.sub (.loc 4) (.con (.int 3)),.call "end_of" [.loc 4]]),
  .for_ (.loc 7) (.loc 6) jdP] [.ret (.con (.bool false))]],
  .set (.attr (.loc 1) "sides") (.loc 6),
  .set (.attr (.loc 1) "state") (.con (.int 0)),
  .ret (.con (.bool true))]
noncomputable def jjT:Row:=⟨"begin_tcp",false,["book","talk","packet","now"],["segment","state","sides","side"],[],jmC⟩
noncomputable def jv0:List IS:=[.set (.loc 5) (.call "segment_of" [.loc 2]),
  .ifs (.bool .Or [.cmp .Is (.loc 5) (.con .none),.un .Not (.call "flags_are_right" [.sub (.loc 5) (.con (.int 4))])]) [.ret (.con (.str "invalid"))] [],
  .set (.loc 6) (.attr (.loc 1) "state"),
  .set (.loc 7) (.call "next_state" [.loc 3,.call "sort_of" [.sub (.loc 5) (.con (.int 4))],.loc 6]),
  .ifs (.cmp .GtE (.loc 7) (.con (.int 10))) [.ret (.ifx (.cmp .Eq (.loc 7) (.con (.int 10))) (.con (.str "ok")) (.con (.str "invalid")))] [],
  .ifs (.bool .And [.cmp .Eq (.loc 7) (.con (.int 1)),.cmp .In (.loc 6) (.tup [.con (.int 7),.con (.int 8)])]) [.set (.loc 8) (.bool .Or [.cmp .Eq (.loc 6) (.con (.int 8)),.attr (.sub (.attr (.loc 1) "sides") (.con (.int 0))) "is_closing",.attr (.sub (.attr (.loc 1) "sides") (.con (.int 1))) "is_closing"]),
  .ret (.ifx (.loc 8) (.con (.str "again")) (.con (.str "invalid")))] [],
  .ifs (.call "is_refused" [.loc 1,.loc 5,.loc 3]) [.ret (.con (.str "invalid"))] [],
  .set (.attr (.loc 1) "state") (.loc 7),
  .ifs (.bool .And [.cmp .Eq (.loc 7) (.con (.int 4)),.cmp .NotEq (.loc 6) (.con (.int 4))]) [.set (.attr (.sub (.attr (.loc 1) "sides") (.loc 3)) "is_closing") (.con (.bool true))] [],
  .ifs (.cmp .Eq (.bin .BitAnd (.attr (.loc 1) "status") (.con (.int 2))) (.con (.int 0))) [.ifs (.cmp .NotEq (.bin .BitAnd (.sub (.loc 5) (.con (.int 4))) (.con (.int 4))) (.con (.int 0))) [.expr (.call "drop_talk" [.loc 0,.loc 1]),
  .ret (.con (.str "ok"))] [],
  .ifs (.bool .And [.cmp .Eq (.loc 6) (.con (.int 1)),.cmp .Eq (.call "sort_of" [.sub (.loc 5) (.con (.int 4))]) (.con (.int 0))]) [.ret (.con (.str "ok"))] []] [.ifs (.bool .And [.cmp .Eq (.loc 7) (.con (.int 3)),.cmp .In (.loc 6) (.tup [.con (.int 2),.con (.int 3)])]) [.set (.attr (.loc 1) "status") (.bin .BitOr (.attr (.loc 1) "status") (.con (.int 4)))] []],
  .expr (.call "refresh_tcp" [.loc 1,.loc 4]),
  .ret (.con (.str "ok"))]
noncomputable def juO:Row:=⟨"go_tcp",false,["book","talk","packet","direction","now"],["segment","old","state","is_over"],[],jv0⟩
noncomputable def jj7:List IS:=[.ifs (.cmp .Lt (.attr (.loc 0) "off") (.con (.int 0))) [.ret (.con .none)] [],
  .set (.loc 1) (.bltn "bytes" [.slice (.attr (.loc 0) "data") (some (.attr (.loc 0) "off")) none]),
  .ifs (.cmp .Lt (.bltn "len" [.loc 1]) (.con (.int 20))) [.ret (.con .none)] [],
  .set (.loc 2) (.bin .Mult (.con (.int 4)) (.bin .RShift (.sub (.loc 1) (.con (.int 12))) (.con (.int 4)))),
  .ifs (.un .Not (.cmp2 .LtE .LtE (.con (.int 20)) (.loc 2) (.bltn "len" [.loc 1]))) [.ret (.con .none)] [],
  .set (.loc 3) (.call "number_of" [.slice (.loc 1) (some (.con (.int 4))) (some (.con (.int 8)))]),
  .set (.loc 4) (.call "number_of" [.slice (.loc 1) (some (.con (.int 8))) (some (.con (.int 12)))]),
  .ret (.tup [.loc 3,.loc 4,.bin .Sub (.bltn "len" [.loc 1]) (.loc 2),.call "number_of" [.slice (.loc 1) (some (.con (.int 14))) (some (.con (.int 16)))],.sub (.loc 1) (.con (.int 13)),.slice (.loc 1) (some (.con (.int 20))) (some (.loc 2))])]
noncomputable def ji9:Row:=⟨"segment_of",false,["packet"],["octets","begin","seq","ack"],[],jj7⟩
noncomputable def jeA:List IS:=[.set (.loc 1) (.bin .BitOr (.bin .LShift (.loc 1) (.con (.int 8))) (.loc 2))]
noncomputable def jl3:List IS:=[.set (.loc 1) (.con (.int 0)),
  .for_ (.loc 2) (.loc 0) jeA,
  .ret (.loc 1)]
noncomputable def jjB:Row:=⟨"number_of",false,["octets"],["number","octet"],[],jl3⟩
noncomputable def mN:List IS:=[.ret (.cmp .In (.bin .BitAnd (.loc 0) (.con (.int 55))) (.tup [.con (.int 2),.con (.int 34),.con (.int 18),.con (.int 4),.con (.int 20),.con (.int 17),.con (.int 49),.con (.int 16),.con (.int 48)]))]
noncomputable def mT:Row:=⟨"flags_are_right",false,["flags"],[],[],mN⟩
noncomputable def ji2:List IS:=[.ifs (.cmp .Eq (.loc 1) (.con (.int 5))) [.ret (.con (.int 11))] [],
  .ifs (.cmp .Eq (.loc 1) (.con (.int 4))) [.ret (.ifx (.cmp .Eq (.loc 2) (.con (.int 0))) (.con (.int 11)) (.con (.int 8)))] [],
  .ifs (.cmp .Eq (.loc 0) (.con (.int 0))) [.set (.loc 3) (.tup [.tup [.con (.int 1),.con (.int 1),.con (.int 10),.con (.int 10),.con (.int 10),.con (.int 10),.con (.int 10),.con (.int 1),.con (.int 1),.con (.int 9)],.tup [.con (.int 11),.con (.int 11),.con (.int 2),.con (.int 11),.con (.int 11),.con (.int 11),.con (.int 11),.con (.int 11),.con (.int 11),.con (.int 2)],.tup [.con (.int 11),.con (.int 11),.con (.int 4),.con (.int 4),.con (.int 6),.con (.int 6),.con (.int 6),.con (.int 7),.con (.int 8),.con (.int 11)],.tup [.con (.int 3),.con (.int 11),.con (.int 3),.con (.int 3),.con (.int 5),.con (.int 5),.con (.int 7),.con (.int 7),.con (.int 8),.con (.int 11)]])] [.set (.loc 3) (.tup [.tup [.con (.int 11),.con (.int 9),.con (.int 11),.con (.int 11),.con (.int 11),.con (.int 11),.con (.int 11),.con (.int 1),.con (.int 11),.con (.int 9)],.tup [.con (.int 11),.con (.int 2),.con (.int 10),.con (.int 10),.con (.int 10),.con (.int 10),.con (.int 10),.con (.int 10),.con (.int 10),.con (.int 2)],.tup [.con (.int 11),.con (.int 11),.con (.int 4),.con (.int 4),.con (.int 6),.con (.int 6),.con (.int 6),.con (.int 7),.con (.int 8),.con (.int 11)],.tup [.con (.int 11),.con (.int 10),.con (.int 2),.con (.int 3),.con (.int 5),.con (.int 5),.con (.int 7),.con (.int 7),.con (.int 8),.con (.int 10)]])],
  .ret (.sub (.sub (.loc 3) (.loc 1)) (.loc 2))]
noncomputable def jiI:Row:=⟨"next_state",false,["direction","sort","state"],["rows"],[],ji2⟩
noncomputable def jqO:List IS:=[.ifs (.cmp .NotEq (.bin .BitAnd (.loc 0) (.con (.int 4))) (.con (.int 0))) [.ret (.con (.int 4))] [],
  .ifs (.cmp .NotEq (.bin .BitAnd (.loc 0) (.con (.int 2))) (.con (.int 0))) [.ret (.ifx (.cmp .NotEq (.bin .BitAnd (.loc 0) (.con (.int 16))) (.con (.int 0))) (.con (.int 1)) (.con (.int 0)))] [],
  .ifs (.cmp .NotEq (.bin .BitAnd (.loc 0) (.con (.int 1))) (.con (.int 0))) [.ret (.con (.int 2))] [],
  .ret (.ifx (.cmp .NotEq (.bin .BitAnd (.loc 0) (.con (.int 16))) (.con (.int 0))) (.con (.int 3)) (.con (.int 5)))]
noncomputable def jq5:Row:=⟨"sort_of",false,["flags"],[],[],jqO⟩
noncomputable def jl8:List IS:=[.set (.attr (.loc 0) "end") (.loc 2),
  .set (.attr (.loc 0) "maxend") (.loc 2),
  .set (.attr (.loc 0) "maxwin") (.bltn "max" [.sub (.loc 1) (.con (.int 3)),.con (.int 1)]),
  .expr (.call "note_options" [.loc 0,.sub (.loc 1) (.con (.int 5))])]
noncomputable def jm8:Row:=⟨"open_side",false,["side","segment","end"],[],[],jl8⟩
noncomputable def jdD:List IS:=[.set (.loc 2) (.call "scale_of" [.loc 1]),
  .set (.attr (.loc 0) "scale") (.bltn "max" [.loc 2,.con (.int 0)]),
  .set (.attr (.loc 0) "is_scaled") (.cmp .GtE (.loc 2) (.con (.int 0))),
  .set (.attr (.loc 0) "is_sack") (.call "may_sack" [.loc 1])]
noncomputable def jeX:Row:=⟨"note_options",false,["side","options"],["scale"],[],jdD⟩
noncomputable def jf8:List IS:=[.ifs (.bool .And [.cmp .Eq (.loc 2) (.con (.int 3)),.cmp .Eq (.bltn "len" [.loc 3]) (.con (.int 1))]) [.set (.loc 1) (.bltn "min" [.sub (.loc 3) (.con (.int 0)),.con (.int 14)])] []]
noncomputable def jnX:List IS:=[.set (.loc 1) (.un .USub (.con (.int 1))),
  .for_ (.locs [2,3]) (.sub (.call "options_till" [.loc 0]) (.con (.int 0))) jf8,
  .ret (.loc 1)]
noncomputable def jnQ:Row:=⟨"scale_of",false,["octets"],["scale","kind","data"],[],jnX⟩
noncomputable def je4:List IS:=[.set (.loc 1) (.lst []),
  .set (.loc 2) (.con (.int 0)),
  .whil (.bool .And [.cmp .Lt (.loc 2) (.bltn "len" [.loc 0]),.cmp .NotEq (.sub (.loc 0) (.loc 2)) (.con (.int 0))]) [],
  .ret (.tup [.loc 1,.con (.bool true)])]
noncomputable def je5:Row:=⟨"options_till",false,["octets"],["rows","at","many"],[],je4⟩
noncomputable def jnC:List IS:=[.ret (.cmp .In (.tup [.con (.int 4),.con (.bytes [])]) (.sub (.call "options_till" [.loc 0]) (.con (.int 0))))]
noncomputable def joR:Row:=⟨"may_sack",false,["octets"],[],[],jnC⟩
noncomputable def jqS:List IS:=[.set (.attr (.loc 0) "end") (.loc 2),
  .set (.attr (.loc 0) "maxwin") (.bltn "max" [.loc 1,.con (.int 1)]),
  .set (.attr (.loc 0) "maxend") (.bin .BitAnd (.bin .Add (.loc 2) (.attr (.loc 0) "maxwin")) (.con (.int 4294967295)))]
noncomputable def jrF:Row:=⟨"take_up",false,["side","window","end"],[],[],jqS⟩
noncomputable def juS:List IS:=[.ret (.bin .BitAnd (.bin .Add (.bin .Add (.bin .Add (.sub (.loc 0) (.con (.int 0))) (.sub (.loc 0) (.con (.int 2)))) (.bin .BitAnd (.bin .RShift (.sub (.loc 0) (.con (.int 4))) (.con (.int 1))) (.con (.int 1)))) (.bin .BitAnd (.sub (.loc 0) (.con (.int 4))) (.con (.int 1)))) (.con (.int 4294967295)))]
noncomputable def jsX:Row:=⟨"end_of",false,["segment"],[],[],juS⟩
noncomputable def ji3:List IS:=[.set (.loc 3) (.sub (.attr (.loc 0) "sides") (.bin .Sub (.con (.int 1)) (.loc 2))),
  .ifs (.bool .And [.cmp .NotEq (.bin .BitAnd (.sub (.loc 1) (.con (.int 4))) (.con (.int 4))) (.con (.int 0)),.attr (.loc 3) "has_maxack",.call "before" [.sub (.loc 1) (.con (.int 0)),.attr (.loc 3) "maxack"]]) [.ret (.con (.bool true))] [],
  .ret (.bool .And [.un .Not (.call "in_window" [.attr (.loc 0) "sides",.loc 2,.attr (.loc 0) "state",.loc 1]),.un .Not (.attr (.sub (.attr (.loc 0) "sides") (.loc 2)) "is_liberal")])]
noncomputable def ji5:Row:=⟨"is_refused",false,["talk","segment","direction"],["receiver"],[],ji3⟩
noncomputable def jmD:List IS:=[.set (.loc 4) (.sub (.loc 0) (.loc 1)),
  .set (.loc 5) (.sub (.loc 0) (.bin .Sub (.con (.int 1)) (.loc 1))),
  .set (.loc 6) (.sub (.loc 3) (.con (.int 0))),
  .set (.loc 7) (.sub (.loc 3) (.con (.int 1))),
  .set (.loc 8) (.sub (.loc 3) (.con (.int 4))),
  .set (.loc 9) (.ifx (.attr (.loc 5) "is_sack") (.call "sack_edge" [.sub (.loc 3) (.con (.int 5)),.loc 7]) (.loc 7)),
  .ifs (.call "meet_sender" [.loc 0,.loc 1,.loc 2,.loc 3,.loc 9]) [.ret (.con (.bool true))] [],
  .set (.loc 10) (.call "end_of" [.loc 3]),
  .ifs (.bool .Or [.cmp .Eq (.bin .BitAnd (.loc 8) (.con (.int 16))) (.con (.int 0)),.bool .And [.cmp .NotEq (.bin .BitAnd (.loc 8) (.con (.int 4))) (.con (.int 0)),.cmp .Eq (.loc 7) (.con (.int 0))]]) [.set (.loc 7) (.attr (.loc 5) "end"),
  .set (.loc 9) (.loc 7)] [],
  .ifs (.bool .And [.cmp .NotEq (.bin .BitAnd (.loc 8) (.con (.int 4))) (.con (.int 0)),.cmp .Eq (.loc 6) (.con (.int 0)),.cmp .Eq (.loc 2) (.con (.int 1))]) [.set (.loc 6) (.attr (.loc 4) "end"),
  .set (.loc 10) (.loc 6)] [],
  .ifs (.un .Not (.call "is_within" [.loc 4,.loc 5,.loc 6,.loc 10,.loc 9])) [.ret (.con (.bool false))] [],
  .set (.loc 11) (.ifx (.cmp .NotEq (.bin .BitAnd (.loc 8) (.con (.int 2))) (.con (.int 0))) (.sub (.loc 3) (.con (.int 3))) (.bin .LShift (.sub (.loc 3) (.con (.int 3))) (.attr (.loc 4) "scale"))),
  .expr (.call "move_sender" [.loc 4,.cmp .NotEq (.bin .BitAnd (.loc 8) (.con (.int 16))) (.con (.int 0)),.loc 10,.loc 7,.bin .BitAnd (.bin .Sub (.bin .Add (.loc 11) (.loc 9)) (.loc 7)) (.con (.int 4294967295))]),
  .expr (.call "move_receiver" [.loc 4,.loc 5,.loc 10,.loc 7,.bin .BitAnd (.bin .Add (.loc 9) (.loc 11)) (.con (.int 4294967295)),.loc 11]),
  .ret (.con (.bool true))]
noncomputable def jm5:Row:=⟨"in_window",false,["sides","direction","state","segment"],["sender","receiver","seq","ack","flags","sack","end","window"],[],jmD⟩
noncomputable def jfO:List IS:=[.set (.loc 5) (.sub (.loc 0) (.loc 1)),
  .set (.loc 6) (.sub (.loc 0) (.bin .Sub (.con (.int 1)) (.loc 1))),
  .set (.loc 7) (.call "end_of" [.loc 3]),
  .set (.loc 8) (.cmp .NotEq (.bin .BitAnd (.sub (.loc 3) (.con (.int 4))) (.con (.int 2))) (.con (.int 0))),
  .ifs (.cmp .NotEq (.attr (.loc 5) "maxwin") (.con (.int 0))) [.ifs (.bool .And [.loc 8,.cmp .In (.loc 2) (.tup [.con (.int 1),.con (.int 2)]),.call "after" [.loc 7,.attr (.loc 5) "end"]]) [.ret (.bool .And [.call "begin_side" [.loc 0,.loc 1,.loc 3,.loc 7],.cmp .Eq (.loc 1) (.con (.int 1))])] [],
  .ret (.con (.bool false))] [],
  .ifs (.loc 8) [.ret (.call "begin_side" [.loc 0,.loc 1,.loc 3,.loc 7])] [],
  .expr (.call "take_up" [.loc 5,.bin .LShift (.sub (.loc 3) (.con (.int 3))) (.attr (.loc 5) "scale"),.loc 7]),
  .ifs (.cmp .Eq (.attr (.loc 6) "maxwin") (.con (.int 0))) [.set (.attr (.loc 6) "end") (.loc 4),
  .set (.attr (.loc 6) "maxend") (.loc 4)] [.ifs (.cmp .Eq (.loc 4) (.bin .BitAnd (.bin .Add (.attr (.loc 6) "end") (.con (.int 1))) (.con (.int 4294967295)))) [.set (.attr (.loc 6) "end") (.loc 4)] []],
  .ret (.con (.bool false))]
noncomputable def jf7:Row:=⟨"meet_sender",false,["sides","direction","state","segment","sack"],["sender","receiver","end","is_syn"],[],jfO⟩
noncomputable def jt6:List IS:=[.ret (.cmp .Eq (.bin .RShift (.bin .BitAnd (.bin .Sub (.loc 0) (.loc 1)) (.con (.int 4294967295))) (.con (.int 31))) (.con (.int 1)))]
noncomputable def jv1:Row:=⟨"before",false,["a","b"],[],[],jt6⟩
noncomputable def jwC:List IS:=[.ret (.cmp .Eq (.bin .RShift (.bin .BitAnd (.bin .Sub (.loc 1) (.loc 0)) (.con (.int 4294967295))) (.con (.int 31))) (.con (.int 1)))]
noncomputable def jw6:Row:=⟨"after",false,["a","b"],[],[],jwC⟩
noncomputable def jlI:List IS:=[.ifs (.un .Not (.call "before" [.loc 2,.bin .Add (.attr (.loc 0) "maxend") (.con (.int 1))])) [.ret (.con (.bool false))] [],
  .ifs (.bool .And [.cmp .NotEq (.attr (.loc 1) "maxwin") (.con (.int 0)),.un .Not (.call "after" [.loc 3,.bin .Sub (.bin .Sub (.attr (.loc 0) "end") (.attr (.loc 1) "maxwin")) (.con (.int 1))])]) [.ret (.con (.bool false))] [],
  .ret (.bool .And [.call "before" [.loc 4,.bin .Add (.attr (.loc 1) "end") (.con (.int 1))],.call "after" [.loc 4,.bin .Sub (.bin .Sub (.attr (.loc 1) "end") (.bltn "max" [.attr (.loc 0) "maxwin",.con (.int 66000)])) (.con (.int 1))]])]
noncomputable def jkJ:Row:=⟨"is_within",false,["sender","receiver","seq","end","sack"],[],[],jlI⟩
noncomputable def jf4:List IS:=[.set (.attr (.loc 0) "maxwin") (.bltn "max" [.attr (.loc 0) "maxwin",.loc 4]),
  .ifs (.call "after" [.loc 2,.attr (.loc 0) "end"]) [.set (.attr (.loc 0) "end") (.loc 2),
  .set (.attr (.loc 0) "is_unacked") (.con (.bool true))] [],
  .ifs (.bool .And [.loc 1,.bool .Or [.un .Not (.attr (.loc 0) "has_maxack"),.call "after" [.loc 3,.attr (.loc 0) "maxack"]]]) [.set (.attr (.loc 0) "maxack") (.loc 3),
  .set (.attr (.loc 0) "has_maxack") (.con (.bool true))] []]
noncomputable def jfK:Row:=⟨"move_sender",false,["sender","is_acked","end","ack","reach"],[],[],jf4⟩
noncomputable def jbL:List IS:=[.ifs (.bool .And [.cmp .NotEq (.attr (.loc 1) "maxwin") (.con (.int 0)),.call "after" [.loc 2,.attr (.loc 0) "maxend"]]) [.set (.attr (.loc 1) "maxwin") (.bin .BitAnd (.bin .Sub (.bin .Add (.attr (.loc 1) "maxwin") (.loc 2)) (.attr (.loc 0) "maxend")) (.con (.int 4294967295)))] [],
  .ifs (.call "after" [.loc 4,.bin .Sub (.attr (.loc 1) "maxend") (.con (.int 1))]) [.set (.attr (.loc 1) "maxend") (.bin .BitAnd (.bin .Add (.loc 4) (.ifx (.cmp .Eq (.loc 5) (.con (.int 0))) (.con (.int 1)) (.con (.int 0)))) (.con (.int 4294967295)))] [],
  .ifs (.cmp .Eq (.loc 3) (.attr (.loc 1) "end")) [.set (.attr (.loc 1) "is_unacked") (.con (.bool false))] []]
noncomputable def jbU:Row:=⟨"move_receiver",false,["sender","receiver","end","ack","edge","window"],[],[],jbL⟩
noncomputable def jfH:List IS:=[.set (.loc 2) (.call "tcp_span" [.attr (.loc 0) "state"]),
  .set (.loc 3) (.bool .And [.cmp .Eq (.attr (.loc 0) "state") (.con (.int 3)),.cmp .Eq (.bin .BitAnd (.attr (.loc 0) "status") (.con (.int 2))) (.con (.int 0))]),
  .ifs (.bool .Or [.loc 3,.attr (.sub (.attr (.loc 0) "sides") (.con (.int 0))) "is_unacked",.attr (.sub (.attr (.loc 0) "sides") (.con (.int 1))) "is_unacked"]) [.set (.loc 2) (.bltn "min" [.loc 2,.con (.int 300000)])] [],
  .set (.attr (.loc 0) "until") (.bin .Add (.loc 1) (.loc 2))]
noncomputable def jfC:Row:=⟨"refresh_tcp",false,["talk","now"],["span","is_unanswered"],[],jfH⟩
noncomputable def joA:List IS:=[.ret (.sub (.tup [.con (.int 0),.con (.int 120000),.con (.int 60000),.con (.int 432000000),.con (.int 120000),.con (.int 60000),.con (.int 30000),.con (.int 120000),.con (.int 10000),.con (.int 120000)]) (.loc 0))]
noncomputable def jmI:Row:=⟨"tcp_span",false,["state"],[],[],joA⟩
noncomputable def jcT:List IS:=[.set (.loc 6) (.bin .BitAnd (.bin .Sub (.call "number_of" [.slice (.loc 4) (some (.loc 5)) (some (.bin .Add (.loc 5) (.con (.int 4))))]) (.loc 1)) (.con (.int 4294967295))),
  .ifs (.bool .And [.cmp .Lt (.loc 6) (.bin .LShift (.con (.int 1)) (.con (.int 31))),.cmp .Gt (.loc 6) (.loc 2)]) [.set (.loc 2) (.loc 6)] []]
noncomputable def je1:List IS:=[.ifs (.bool .And [.cmp .Eq (.loc 3) (.con (.int 5)),.cmp .Eq (.bin .Mod (.bltn "len" [.loc 4]) (.con (.int 8))) (.con (.int 0))]) [.for_ (.loc 5) (.bltn "range" [.con (.int 4),.bltn "len" [.loc 4],.con (.int 8)]) jcT] []]
noncomputable def jjR:List IS:=[.set (.loc 2) (.con (.int 0)),
  .for_ (.locs [3,4]) (.sub (.call "options_till" [.loc 0]) (.con (.int 0))) je1,
  .ret (.bin .BitAnd (.bin .Add (.loc 1) (.loc 2)) (.con (.int 4294967295)))]
noncomputable def jl1:Row:=⟨"sack_edge",false,["octets","ack"],["most","kind","data","at","far"],[],jjR⟩
noncomputable def jhR:List IS:=[.ifs (.cmp .Eq (.loc 1) (.con (.int 1))) [.expr (.call "answer_side" [.sub (.loc 0) (.con (.int 1)),.sub (.loc 0) (.con (.int 0)),.loc 2,.loc 3])] [.expr (.call "open_side" [.sub (.loc 0) (.con (.int 0)),.loc 2,.loc 3])],
  .ret (.cmp .Eq (.bin .BitAnd (.sub (.loc 2) (.con (.int 4))) (.con (.int 16))) (.con (.int 0)))]
noncomputable def jhH:Row:=⟨"begin_side",false,["sides","direction","segment","end"],[],[],jhR⟩
noncomputable def jhG:List IS:=[.ifs (.un .Not (.call "is_error_packet" [.attr (.loc 1) "packet"])) [.ret (.con (.bool false))] [],
  .set (.loc 3) (.call "talk_of_error" [.loc 0,.attr (.loc 1) "packet",.loc 2,.attr (.loc 1) "now"]),
  .ifs (.cmp .Is (.loc 3) (.con .none)) [.set (.attr (.loc 1) "talk") (.con .none),
  .set (.attr (.loc 1) "state") (.con (.int 1)),
  .set (.attr (.loc 1) "is_reply") (.con (.int 0))] [.set (.attr (.loc 1) "talk") (.sub (.loc 3) (.con (.int 0))),
  .set (.attr (.loc 1) "state") (.con (.int 4)),
  .set (.attr (.loc 1) "is_reply") (.sub (.loc 3) (.con (.int 1)))],
  .ret (.con (.bool true))]
noncomputable def jiJ:Row:=⟨"error_talk",false,["book","scene","zone"],["hit"],[],jhG⟩
noncomputable def jbR:List IS:=[.set (.loc 3) (.attr (.loc 1) "packet"),
  .ifs (.bool .And [.cmp .Eq (.call "family_of" [.loc 3]) (.con (.int 10)),.cmp2 .LtE .LtE (.con (.int 0)) (.attr (.loc 3) "off") (.bin .Sub (.bltn "len" [.attr (.loc 3) "data"]) (.con (.int 8)))]) [.ifs (.cmp .In (.sub (.attr (.loc 3) "data") (.attr (.loc 3) "off")) (.tup [.con (.int 130),.con (.int 131),.con (.int 132),.con (.int 133),.con (.int 134),.con (.int 135),.con (.int 136),.con (.int 143)])) [.set (.attr (.loc 1) "talk") (.con .none),
  .set (.attr (.loc 1) "state") (.con (.int 64)),
  .set (.attr (.loc 1) "is_reply") (.con (.int 0)),
  .ret (.con (.bool true))] []] [],
  .ret (.call "error_talk" [.loc 0,.loc 1,.loc 2])]
noncomputable def jbX:Row:=⟨"error_or_near",false,["book","scene","zone"],["packet"],[],jbR⟩
noncomputable def m8:List IS:=[.set (.loc 1) (.call "family_of" [.loc 0]),
  .ifs (.bool .Or [.un .Not (.call "is_icmp" [.loc 1,.attr (.loc 0) "l4"]),.cmp .Lt (.attr (.loc 0) "off") (.con (.int 0)),.cmp .GtE (.attr (.loc 0) "off") (.bltn "len" [.attr (.loc 0) "data"])]) [.ret (.con (.bool false))] [],
  .ret (.call "is_error" [.loc 1,.sub (.attr (.loc 0) "data") (.attr (.loc 0) "off")])]
noncomputable def ja0:Row:=⟨"is_error_packet",false,["packet"],["nfproto"],[],m8⟩
noncomputable def jk1:List IS:=[.ifs (.cmp .Eq (.attr (.loc 0) "kind") (.con (.int 2048))) [.ret (.con (.int 2))] [],
  .ifs (.cmp .Eq (.attr (.loc 0) "kind") (.con (.int 34525))) [.ret (.con (.int 10))] [],
  .ifs (.cmp .Eq (.attr (.loc 0) "kind") (.con (.int 2054))) [.ret (.con (.int 3))] [],
  .ret (.con (.int 0))]
noncomputable def jmB:Row:=⟨"family_of",false,["packet"],[],[],jk1⟩
noncomputable def jnG:List IS:=[.ret (.cmp .In (.loc 1) (.call "error_kinds" [.loc 0]))]
noncomputable def jo2:Row:=⟨"is_error",false,["nfproto","kind"],[],[],jnG⟩
noncomputable def jfM:List IS:=[.ret (.ifx (.cmp .Eq (.loc 0) (.con (.int 2))) (.tup [.con (.int 3),.con (.int 4),.con (.int 5),.con (.int 11),.con (.int 12)]) (.tup [.con (.int 1),.con (.int 2),.con (.int 3),.con (.int 4)]))]
noncomputable def jfJ:Row:=⟨"error_kinds",false,["nfproto"],[],[],jfM⟩
noncomputable def jc0:List IS:=[.set (.loc 4) (.call "family_of" [.loc 1]),
  .set (.loc 5) (.call "inner_tuple" [.slice (.attr (.loc 1) "data") (some (.bin .Add (.attr (.loc 1) "off") (.con (.int 8)))) none,.loc 4]),
  .ifs (.cmp .Is (.loc 5) (.con .none)) [.ret (.con .none)] [],
  .set (.loc 6) (.call "invert" [.loc 5]),
  .ifs (.cmp .Is (.loc 6) (.con .none)) [.ret (.con .none)] [],
  .set (.loc 7) (.call "look_up" [.loc 0,.loc 2,.loc 6,.loc 3]),
  .ifs (.bool .Or [.cmp .Is (.loc 7) (.con .none),.cmp .NotEq (.sub (.call "side_of" [.sub (.loc 7) (.con (.int 0)),.sub (.loc 7) (.con (.int 1))]) (.con (.int 4))) (.call "target_of" [.loc 1])]) [.ret (.con .none)] [],
  .ret (.loc 7)]
noncomputable def jbN:Row:=⟨"talk_of_error",false,["book","packet","zone","now"],["nfproto","inner","turned","hit"],[],jc0⟩
noncomputable def jfB:List IS:=[.set (.loc 2) (.ifx (.cmp .Eq (.loc 1) (.con (.int 2))) (.call "look4" [.loc 0]) (.call "look6" [.loc 0])),
  .ifs (.bool .Or [.cmp .Is (.loc 2) (.con .none),.cmp .NotEq (.sub (.loc 2) (.con (.int 2))) (.con (.int 0))]) [.ret (.con .none)] [],
  .ret (.call "tuple_at" [.loc 0,.loc 1,.sub (.loc 2) (.con (.int 0)),.sub (.loc 2) (.con (.int 1))])]
noncomputable def jf5:Row:=⟨"inner_tuple",false,["octets","nfproto"],["seen"],[],jfB⟩
noncomputable def jx0:List IS:=[.ifs (.bool .Or [.cmp .Lt (.bltn "len" [.loc 0]) (.con (.int 20)),.cmp .NotEq (.bin .RShift (.sub (.loc 0) (.con (.int 0))) (.con (.int 4))) (.con (.int 4))]) [.ret (.con .none)] [],
  .set (.loc 1) (.bin .Mult (.bin .BitAnd (.sub (.loc 0) (.con (.int 0))) (.con (.int 15))) (.con (.int 4))),
  .ifs (.bool .Or [.cmp .Lt (.loc 1) (.con (.int 20)),.cmp .Gt (.loc 1) (.bltn "len" [.loc 0])]) [.ret (.con .none)] [],
  .set (.loc 2) (.call "number_of" [.slice (.loc 0) (some (.con (.int 6))) (some (.con (.int 8)))]),
  .ret (.tup [.sub (.loc 0) (.con (.int 9)),.loc 1,.bin .Mult (.bin .BitAnd (.loc 2) (.con (.int 8191))) (.con (.int 8)),.cmp .NotEq (.bin .BitAnd (.loc 2) (.con (.int 8192))) (.con (.int 0))])]
noncomputable def jvV:Row:=⟨"look4",false,["data"],["off","word"],[],jx0⟩
noncomputable def jwA:List IS:=[.ifs (.bool .Or [.cmp .Lt (.bltn "len" [.loc 0]) (.con (.int 40)),.cmp .NotEq (.bin .RShift (.sub (.loc 0) (.con (.int 0))) (.con (.int 4))) (.con (.int 6))]) [.ret (.con .none)] [],
  .set (.loc 1) (.sub (.loc 0) (.con (.int 6))),
  .set (.loc 2) (.con (.int 40)),
  .set (.loc 3) (.con (.int 0)),
  .set (.loc 4) (.con (.bool false)),
  .whil (.cmp .Eq (.loc 3) (.con (.int 0))) [],
  .ret (.tup [.loc 1,.loc 2,.loc 3,.loc 4])]
noncomputable def jwS:Row:=⟨"look6",false,["data"],["kind","at","place","is_more","size"],[],jwA⟩
noncomputable def jfD:List IS:=[.set (.sub (.loc 0) (.loc 1)) (.con (.int 0))]
noncomputable def joO:List IS:=[.set (.loc 0) (.dct []),
  .for_ (.loc 1) (.tup [.con (.str "mark"),.con (.str "priority"),.con (.str "iif"),.con (.str "oif"),.con (.str "iifname"),.con (.str "oifname"),.con (.str "pkttype")]) jfD,
  .set (.sub (.loc 0) (.con (.str "iiftype"))) (.con (.int 1)),
  .set (.sub (.loc 0) (.con (.str "oiftype"))) (.con (.int 1)),
  .ret (.loc 0)]
noncomputable def jnZ:Row:=⟨"new_meta",false,[],["out","name"],[],joO⟩
noncomputable def i_Talk:List IS:=[.set (.attr (.loc 0) "number") (.loc 1),
  .set (.attr (.loc 0) "original") (.loc 2),
  .set (.attr (.loc 0) "reply") (.loc 3),
  .set (.attr (.loc 0) "zone") (.loc 4),
  .set (.attr (.loc 0) "until") (.con (.int 0)),
  .set (.attr (.loc 0) "since") (.con (.int 0)),
  .set (.attr (.loc 0) "mark") (.con (.int 0)),
  .set (.attr (.loc 0) "status") (.con (.int 0)),
  .set (.attr (.loc 0) "state") (.con (.int 0)),
  .set (.attr (.loc 0) "sides") (.con .none),
  .set (.attr (.loc 0) "master") (.con (.int 0))]
noncomputable def jsL:Row:=⟨"Talk",true,["self","number","original","reply","zone"],[],[],i_Talk⟩
noncomputable def joB:List IS:=[.set (.attr (.loc 0) "most") (.loc 1),
  .set (.attr (.loc 0) "seed") (.loc 2),
  .set (.attr (.loc 0) "tries") (.loc 3),
  .set (.attr (.loc 0) "table") (.dct []),
  .set (.attr (.loc 0) "talks") (.dct []),
  .set (.attr (.loc 0) "last") (.con (.int 0)),
  .set (.attr (.loc 0) "trackers") (.dct []),
  .set (.attr (.loc 0) "expects") (.lst []),
  .set (.attr (.loc 0) "flows") (.dct []),
  .set (.attr (.loc 0) "is_loose") (.con (.bool true))]
noncomputable def jmU:Row:=⟨"TalkBook",true,["self","most","seed","tries"],[],[(.int 64),(.int 0),(.int 128)],joB⟩
noncomputable def jxJ:List IS:=[.set (.attr (.loc 0) "packet") (.loc 1),
  .set (.attr (.loc 0) "now") (.loc 3),
  .set (.attr (.loc 0) "hook") (.loc 4),
  .set (.attr (.loc 0) "talk") (.con .none),
  .set (.attr (.loc 0) "state") (.con (.int 1)),
  .set (.attr (.loc 0) "is_reply") (.con (.int 0)),
  .set (.attr (.loc 0) "talks") (.con .none),
  .set (.attr (.loc 0) "sets") (.dct []),
  .set (.attr (.loc 0) "objects") (.dct []),
  .set (.attr (.loc 0) "fields") (.loc 2),
  .set (.attr (.loc 0) "readers") (.dct []),
  .set (.attr (.loc 0) "doers") (.dct []),
  .set (.attr (.loc 0) "ops") (.dct []),
  .set (.attr (.loc 0) "tools") (.dct []),
  .set (.attr (.loc 0) "order") (.con (.str "little")),
  .set (.attr (.loc 0) "log") (.lst []),
  .set (.attr (.loc 0) "replies") (.lst []),
  .set (.attr (.loc 0) "steps") (.con .none),
  .set (.attr (.loc 0) "homes") (.dct [])]
noncomputable def joU:Row:=⟨"Scene",true,["self","packet","fields","now","hook"],[],[(.int 0),(.str "input")],jxJ⟩
noncomputable def juI:List IS:=[.set (.attr (.loc 0) "master") (.loc 1),
  .set (.attr (.loc 0) "t") (.loc 2),
  .set (.attr (.loc 0) "zone") (.loc 3),
  .set (.attr (.loc 0) "until") (.loc 4)]
noncomputable def jkT:Row:=⟨"Expect",true,["self","master","t","zone","until"],[],[],juI⟩
noncomputable def jsY:List IS:=[.set (.attr (.loc 0) "data") (.bltn "bytearray" [.loc 1]),
  .set (.attr (.loc 0) "link") (.bltn "bytearray" [.loc 3]),
  .set (.attr (.loc 0) "kind") (.loc 2),
  .set (.attr (.loc 0) "l4") (.un .USub (.con (.int 1))),
  .set (.attr (.loc 0) "off") (.un .USub (.con (.int 1))),
  .set (.attr (.loc 0) "place") (.con (.int 0)),
  .set (.attr (.loc 0) "meta") (.call "new_meta" [])]
noncomputable def juC:Row:=⟨"Packet",true,["self","data","kind","link"],[],[],jsY⟩
noncomputable def i_Side:List IS:=[.set (.attr (.loc 0) "end") (.con (.int 0)),
  .set (.attr (.loc 0) "maxend") (.con (.int 0)),
  .set (.attr (.loc 0) "maxwin") (.con (.int 0)),
  .set (.attr (.loc 0) "maxack") (.con (.int 0)),
  .set (.attr (.loc 0) "scale") (.con (.int 0)),
  .set (.attr (.loc 0) "is_scaled") (.con (.bool false)),
  .set (.attr (.loc 0) "is_sack") (.con (.bool false)),
  .set (.attr (.loc 0) "has_maxack") (.con (.bool false)),
  .set (.attr (.loc 0) "is_unacked") (.con (.bool false)),
  .set (.attr (.loc 0) "is_closing") (.con (.bool false)),
  .set (.attr (.loc 0) "is_liberal") (.con (.bool false))]
noncomputable def r_Side:Row:=⟨"Side",true,["self"],[],[],i_Side⟩
noncomputable def prg:List Row:=[jh5,jbA,jg6,joW,jpA,jgS,jgZ,tC,jj8,jiT,jm4,jvF,jhW,jqM,jnK,jd9,jbZ,jdF,jaL,jdJ,jlR,jcE,m7,jeD,nO,jqA,jaJ,je3,r_law_are_trackers,jbC,jeK,jgL,jdQ,jb6,jaR,jcN,jbE,jeR,jdS,jb8,tO,xG,r_law,jjT,juO,ji9,jjB,mT,jiI,jq5,jm8,jeX,jnQ,je5,joR,jrF,jsX,ji5,jm5,jf7,jv1,jw6,jkJ,jfK,jbU,jfC,jmI,jl1,jhH,jiJ,jbX,ja0,jmB,jo2,jfJ,jbN,jf5,jvV,jwS,jnZ,jsL,jmU,joU,jkT,juC,r_Side]
theorem prg_at:prg.map (fun r=>zN r.x prg)=prg.map some:=by kernel_rfl
theorem pr {k:Nat} {r:Row} (h:prg[k]? = some r):zN r.x prg=some r:=jt9 prg_at h
theorem jgR (d:Nat) (S:St) (x0 x1:AV):qB (j1 prg d) jg8 [some x0,some x1] S (fun _ S1=>j1 prg (d+1) "side_of" [x0,x1] S=some (.none,S1)) (fun v S1=>j1 prg (d+1) "side_of" [x0,x1] S=some (v,S1)):=y7 (r:=jh5) (pr (k:=0) rfl) rfl (as:=[x0,x1]) rfl d S
theorem jjW (d:Nat) (S:St) (x0 x1:AV):qB (j1 prg d) jaW [some x0,some x1,none,none,none] S (fun _ S1=>j1 prg (d+1) "drop_talk" [x0,x1] S=some (.none,S1)) (fun v S1=>j1 prg (d+1) "drop_talk" [x0,x1] S=some (v,S1)):=y7 (r:=jbA) (pr (k:=1) rfl) rfl (as:=[x0,x1]) rfl d S
theorem jr2 (d:Nat) (S:St) (x0 x1 x2 x3:AV):qB (j1 prg d) jgD [some x0,some x1,some x2,some x3,none,none] S (fun _ S1=>j1 prg (d+1) "look_up" [x0,x1,x2,x3] S=some (.none,S1)) (fun v S1=>j1 prg (d+1) "look_up" [x0,x1,x2,x3] S=some (v,S1)):=y7 (r:=jg6) (pr (k:=2) rfl) rfl (as:=[x0,x1,x2,x3]) rfl d S
theorem jwO (d:Nat) (S:St) (x0 x1:AV):qB (j1 prg d) joX [some x0,some x1,none,none] S (fun _ S1=>j1 prg (d+1) "sweep" [x0,x1] S=some (.none,S1)) (fun v S1=>j1 prg (d+1) "sweep" [x0,x1] S=some (v,S1)):=y7 (r:=joW) (pr (k:=3) rfl) rfl (as:=[x0,x1]) rfl d S
theorem jhU (d:Nat) (S:St) (x0 x1:AV):qB (j1 prg d) jp6 [some x0,some x1,none] S (fun _ S1=>j1 prg (d+1) "evict" [x0,x1] S=some (.none,S1)) (fun v S1=>j1 prg (d+1) "evict" [x0,x1] S=some (v,S1)):=y7 (r:=jpA) (pr (k:=4) rfl) rfl (as:=[x0,x1]) rfl d S
theorem jq6 (d:Nat) (S:St) (x0:AV):qB (j1 prg d) jgV [some x0,none,none,none] S (fun _ S1=>j1 prg (d+1) "confirm" [x0] S=some (.none,S1)) (fun v S1=>j1 prg (d+1) "confirm" [x0] S=some (v,S1)):=y7 (r:=jgS) (pr (k:=5) rfl) rfl (as:=[x0]) rfl d S
theorem wH (d:Nat) (S:St) (x0 x1:AV):qB (j1 prg d) jgO [some x0,some x1] S (fun _ S1=>j1 prg (d+1) "is_icmp" [x0,x1] S=some (.none,S1)) (fun v S1=>j1 prg (d+1) "is_icmp" [x0,x1] S=some (v,S1)):=y7 (r:=jgZ) (pr (k:=6) rfl) rfl (as:=[x0,x1]) rfl d S
theorem qL (d:Nat) (S:St) (x0 x1:AV):qB (j1 prg d) tH [some x0,some x1,none,none,none] S (fun _ S1=>j1 prg (d+1) "answer_kind" [x0,x1] S=some (.none,S1)) (fun v S1=>j1 prg (d+1) "answer_kind" [x0,x1] S=some (v,S1)):=y7 (r:=tC) (pr (k:=7) rfl) rfl (as:=[x0,x1]) rfl d S
theorem xU (d:Nat) (S:St) (x0:AV):qB (j1 prg d) jl5 [some x0,none,none,none,none,none,none,none] S (fun _ S1=>j1 prg (d+1) "invert" [x0] S=some (.none,S1)) (fun v S1=>j1 prg (d+1) "invert" [x0] S=some (v,S1)):=y7 (r:=jj8) (pr (k:=8) rfl) rfl (as:=[x0]) rfl d S
theorem jeL (d:Nat) (S:St) (x0 x1:AV):qB (j1 prg d) jeH [some x0,some x1,none] S (fun _ S1=>j1 prg (d+1) "_law_draw" [x0,x1] S=some (.none,S1)) (fun v S1=>j1 prg (d+1) "_law_draw" [x0,x1] S=some (v,S1)):=y7 (r:=jcE) (pr (k:=21) rfl) rfl (as:=[x0,x1]) rfl d S
theorem jhK (d:Nat) (S:St) (x0 x1:AV):qB (j1 prg d) mA [some x0,some x1,none,none] S (fun _ S1=>j1 prg (d+1) "_law_digits" [x0,x1] S=some (.none,S1)) (fun v S1=>j1 prg (d+1) "_law_digits" [x0,x1] S=some (v,S1)):=y7 (r:=m7) (pr (k:=22) rfl) rfl (as:=[x0,x1]) rfl d S
theorem jcO (d:Nat) (S:St) (x0 x1:AV):qB (j1 prg d) jcS [some x0,some x1] S (fun _ S1=>j1 prg (d+1) "_law_host" [x0,x1] S=some (.none,S1)) (fun v S1=>j1 prg (d+1) "_law_host" [x0,x1] S=some (v,S1)):=y7 (r:=jeD) (pr (k:=23) rfl) rfl (as:=[x0,x1]) rfl d S
theorem zS (d:Nat) (S:St) (x0:AV):qB (j1 prg d) i_law_turned [some x0,none,none,none,none,none,none,none,none] S (fun _ S1=>j1 prg (d+1) "_law_turned" [x0] S=some (.none,S1)) (fun v S1=>j1 prg (d+1) "_law_turned" [x0] S=some (v,S1)):=y7 (r:=nO) (pr (k:=24) rfl) rfl (as:=[x0]) rfl d S
theorem jlB (d:Nat) (S:St) (x0:AV):qB (j1 prg d) i_law_tuple [some x0,none,none,none,none,none,none,none,none,none,none] S (fun _ S1=>j1 prg (d+1) "_law_tuple" [x0] S=some (.none,S1)) (fun v S1=>j1 prg (d+1) "_law_tuple" [x0] S=some (v,S1)):=y7 (r:=jbC) (pr (k:=29) rfl) rfl (as:=[x0]) rfl d S
theorem joT (d:Nat) (S:St) (x0:AV):qB (j1 prg d) jd5 [some x0,none,none,none,none] S (fun _ S1=>j1 prg (d+1) "_law_ends" [x0] S=some (.none,S1)) (fun v S1=>j1 prg (d+1) "_law_ends" [x0] S=some (v,S1)):=y7 (r:=jeK) (pr (k:=30) rfl) rfl (as:=[x0]) rfl d S
theorem jqV (d:Nat) (S:St) (x0 x1:AV):qB (j1 prg d) jh0 [some x0,some x1,none,none,none,none] S (fun _ S1=>j1 prg (d+1) "_law_out" [x0,x1] S=some (.none,S1)) (fun v S1=>j1 prg (d+1) "_law_out" [x0,x1] S=some (v,S1)):=y7 (r:=jgL) (pr (k:=31) rfl) rfl (as:=[x0,x1]) rfl d S
theorem jnA (d:Nat) (S:St) (x0 x1 x2 x3:AV):qB (j1 prg d) jd0 [some x0,some x1,some x2,some x3,none] S (fun _ S1=>j1 prg (d+1) "_law_find" [x0,x1,x2,x3] S=some (.none,S1)) (fun v S1=>j1 prg (d+1) "_law_find" [x0,x1,x2,x3] S=some (v,S1)):=y7 (r:=jdQ) (pr (k:=32) rfl) rfl (as:=[x0,x1,x2,x3]) rfl d S
theorem jjZ (d:Nat) (S:St) (x0 x1 x2:AV):qB (j1 prg d) jbK [some x0,some x1,some x2,none] S (fun _ S1=>j1 prg (d+1) "_law_enter" [x0,x1,x2] S=some (.none,S1)) (fun v S1=>j1 prg (d+1) "_law_enter" [x0,x1,x2] S=some (v,S1)):=y7 (r:=jb6) (pr (k:=33) rfl) rfl (as:=[x0,x1,x2]) rfl d S
theorem jm9 (d:Nat) (S:St) (x0 x1:AV):qB (j1 prg d) jaS [some x0,some x1,none,none] S (fun _ S1=>j1 prg (d+1) "_law_sweep" [x0,x1] S=some (.none,S1)) (fun v S1=>j1 prg (d+1) "_law_sweep" [x0,x1] S=some (v,S1)):=y7 (r:=jaR) (pr (k:=34) rfl) rfl (as:=[x0,x1]) rfl d S
theorem nE (d:Nat) (S:St) (x0 x1:AV):qB (j1 prg d) tT [some x0,some x1,none,none] S (fun _ S1=>j1 prg (d+1) "_law_room" [x0,x1] S=some (.none,S1)) (fun v S1=>j1 prg (d+1) "_law_room" [x0,x1] S=some (v,S1)):=y7 (r:=jcN) (pr (k:=35) rfl) rfl (as:=[x0,x1]) rfl d S
theorem jaX (d:Nat) (S:St) (x0 x1 x2 x3 x4:AV):qB (j1 prg d) i_law_begin [some x0,some x1,some x2,some x3,some x4,none,none,none,none,none,none,none,none,none,none] S (fun _ S1=>j1 prg (d+1) "_law_begin" [x0,x1,x2,x3,x4] S=some (.none,S1)) (fun v S1=>j1 prg (d+1) "_law_begin" [x0,x1,x2,x3,x4] S=some (v,S1)):=y7 (r:=jbE) (pr (k:=36) rfl) rfl (as:=[x0,x1,x2,x3,x4]) rfl d S
theorem joS (d:Nat) (S:St) (x0 x1 x2 x3:AV):qB (j1 prg d) i_law_seek [some x0,some x1,some x2,some x3,none,none,none,none,none,none,none,none] S (fun _ S1=>j1 prg (d+1) "_law_seek" [x0,x1,x2,x3] S=some (.none,S1)) (fun v S1=>j1 prg (d+1) "_law_seek" [x0,x1,x2,x3] S=some (v,S1)):=y7 (r:=jeR) (pr (k:=37) rfl) rfl (as:=[x0,x1,x2,x3]) rfl d S
theorem jnJ (d:Nat) (S:St) (x0 x1 x2 x3:AV):qB (j1 prg d) jd3 [some x0,some x1,some x2,some x3,none,none] S (fun _ S1=>j1 prg (d+1) "_law_hang" [x0,x1,x2,x3] S=some (.none,S1)) (fun v S1=>j1 prg (d+1) "_law_hang" [x0,x1,x2,x3] S=some (v,S1)):=y7 (r:=jdS) (pr (k:=38) rfl) rfl (as:=[x0,x1,x2,x3]) rfl d S
theorem jmF (d:Nat) (S:St) (x0 x1 x2 x3 x4 x5:AV):qB (j1 prg d) jbD [some x0,some x1,some x2,some x3,some x4,some x5,none,none] S (fun _ S1=>j1 prg (d+1) "_law_event" [x0,x1,x2,x3,x4,x5] S=some (.none,S1)) (fun v S1=>j1 prg (d+1) "_law_event" [x0,x1,x2,x3,x4,x5] S=some (v,S1)):=y7 (r:=jb8) (pr (k:=39) rfl) rfl (as:=[x0,x1,x2,x3,x4,x5]) rfl d S
theorem jfF (d:Nat) (S:St) (x0 x1:AV):qB (j1 prg d) tK [some x0,some x1,none] S (fun _ S1=>j1 prg (d+1) "_law_is_book" [x0,x1] S=some (.none,S1)) (fun v S1=>j1 prg (d+1) "_law_is_book" [x0,x1] S=some (v,S1)):=y7 (r:=tO) (pr (k:=40) rfl) rfl (as:=[x0,x1]) rfl d S
theorem jbY (d:Nat) (S:St) (x0 x1:AV):qB (j1 prg d) xD [some x0,some x1,none,none,none,none] S (fun _ S1=>j1 prg (d+1) "_law_are_talks" [x0,x1] S=some (.none,S1)) (fun v S1=>j1 prg (d+1) "_law_are_talks" [x0,x1] S=some (v,S1)):=y7 (r:=xG) (pr (k:=41) rfl) rfl (as:=[x0,x1]) rfl d S
end Mine.Law
end
section
open PySem
namespace Mine.Law
structure T6 where
 f:Int
 p:Int
 s:Int
 sp:Int
 d:Int
 dp:Int
 deriving DecidableEq
noncomputable def tV (t:T6):AV:=.tup [.int t.f,.int t.p,.int t.s,.int t.sp,.int t.d,.int t.dp]
noncomputable def num (i:Nat):Int:=1+((7*i % 31:Nat):Int)
noncomputable abbrev Key:=Int×T6
noncomputable abbrev Ent:=Key×(Nat×Int)
noncomputable def kV (k:Key):AV:=.tup [.int k.1,tV k.2]
noncomputable def vV (v:Nat×Int):AV:=.tup [.int (num v.1),.int v.2]
noncomputable def fV (v:Nat×Int):AV:=.tup [.int (num v.1),.int v.2,.int (2 - v.2)]
theorem tV_inj {a b:T6} (h:tV a=tV b):a=b:=by
 induction a using Law.T6.casesOn;induction b using Law.T6.casesOn;simp only [tV,AV.tup.injEq,List.cons.injEq,AV.int.injEq] at h;simp [h]
theorem tS {a b:Key} (h:kV a=kV b):a=b:=by
 obtain ⟨z,t⟩:=a;obtain ⟨z',t'⟩:=b
 simp only [kV,AV.tup.injEq,List.cons.injEq,AV.int.injEq] at h
 rw [h.1,tV_inj h.2.1]
theorem gU {i j:Nat} (hi:i < 27) (hj:j < 27) (h:num i=num j):i=j:=by
 have h':7*i % 31=7*j % 31:=by simp only [num] at h;lia
 lia
structure R where
 zone:Int
 a:T6
 b:T6
 st:Int
 un:Int
structure B where
 tks:List R
 tab:List Ent
 bl:List Nat
 fl:List Ent
 exs:List (Nat×Int)
 el:List Nat
 scn:List Int
structure W where
 rws:List R
 wl:List Nat
 fl:List Ent
 wh:List (Nat×Int)
inductive Rl where
 | book | table | talks | flows | exps | world | wtalks | wrows | wflows | hung | scenes
 | talk (i:Nat) | row (i:Nat) | scene (i:Nat) | expect (j:Nat)
 deriving DecidableEq
noncomputable def isD (n:Nat) (es:List (AV×AV)) (o:AO):Prop:=∃ fl ep,o = .dict fl es ep∧(fl=n∨(fl=0∧es=[]))
noncomputable def kJ (i:Nat) (x:R):AO:=.inst "Talk" [("number",.int (num i)),("original",tV x.a),("reply",tV x.b),("zone",.int x.zone),("until",.int x.un),("since",.int 0),("mark",.int 0),("status",.int x.st),("state",.int 0),("sides",.none),("master",.int 0)]
noncomputable def m4 (i:Nat) (x:R):List (AV×AV):=[(.str "number",.int (num i)),(.str "zone",.int x.zone),(.str "ends",.tup [tV x.a,tV x.b]),(.str "status",.int x.st),(.str "until",.int x.un)]
structure Cs where
 most:AV
 seed:AV
 trk:AV
noncomputable def vK (c:Cs) (t k e f:Nat):AO:=.inst "TalkBook" [("most",c.most),("seed",c.seed),("tries",.int 128),("table",.ref t),("talks",.ref k),("last",.int 0),("trackers",c.trk),("expects",.ref e),("flows",.ref f),("is_loose",.bool true)]
noncomputable def jeW (l:List Ent):List (AV×AV):=l.map fun e=>(kV e.1,vV e.2)
noncomputable def flE (l:List Ent):List (AV×AV):=l.map fun e=>(kV e.1,fV e.2)
noncomputable def tkE (f:Nat→Nat) (l:List Nat):List (AV×AV):=l.map fun i=>(.int (num i),.ref (f i))
noncomputable def yM (p:Nat×Int):AV:=.tup [.int (num p.1),.int p.2]
noncomputable def yI (t r f h:Nat):List (AV×AV):=[(.str "talks",.ref t),(.str "rows",.ref r),(.str "flows",.ref f),(.str "hung",.ref h)]
section
variable (r:Rl→Nat) (c:Cs) (b:B) (w:W)
noncomputable def al:Rl→Prop
 | .talk i=>i < b.tks.length
 | .scene i=>i < b.scn.length
 | .row i=>i < w.rws.length
 | .expect j=>j < b.exs.length
 | _=>True
noncomputable def ob:Rl→AO→Prop
 | .book,o=>o=vK c (r .table) (r .talks) (r .exps) (r .flows)
 | .table,o=>isD 4 (jeW b.tab) o
 | .talks,o=>isD 1 (tkE (fun i=>r (.talk i)) b.bl) o
 | .flows,o=>isD 4 (flE b.fl) o
 | .exps,o=>o = .list (b.el.map fun j=>.ref (r (.expect j)))
 | .world,o=>isD 2 (yI (r .wtalks) (r .wrows) (r .wflows) (r .hung)) o
 | .wtalks,o=>isD 1 (tkE (fun i=>r (.row i)) w.wl) o
 | .wrows,o=>o = .list ((List.range w.rws.length).map fun i=>.ref (r (.row i)))
 | .wflows,o=>isD 4 (flE w.fl) o
 | .hung,o=>o = .list (w.wh.map yM)
 | .scenes,o=>o = .list ((List.range b.scn.length).map fun i=>.ref (r (.scene i)))
 | .talk i,o=>∃ x,b.tks[i]? = some x∧o=kJ i x
 | .row i,o=>∃ x,w.rws[i]? = some x∧isD 2 (m4 i x) o
 | .scene i,o=>∃ fs n,b.scn[i]? = some n∧o = .inst "Scene" fs∧fs.length≤100∧j6 ("talk" : Str) fs=some (AV.ref (r (.talk i)))∧j6 ("talks" : Str) fs=some (AV.ref (r .book))∧j6 ("now" : Str) fs=some (AV.int n)
 | .expect j,o=>∃ p x y,b.exs[j]? = some p∧o = .inst "Expect" [("master",.int (num p.1)),("t",x),("zone",y),("until",.int p.2)]
end
structure GoodB (b:B):Prop where
 bl:∀ i∈b.bl,i < b.tks.length
 blN:b.bl.Nodup
 el:∀ j∈b.el,j < b.exs.length
 few:b.tks.length≤27
 tab:∀ e∈b.tab,e.2.1 < 27
 tabN:(b.tab.map (·.1)).Nodup
 fl:∀ e∈b.fl,e.2.1 < 27
 flN:(b.fl.map (·.1)).Nodup
 exs:∀ p∈b.exs,p.1 < 27
 small:b.tab.length≤1000∧b.fl.length≤1000∧b.el.length≤1000
structure GoodW (w:W):Prop where
 wl:∀ i∈w.wl,i < w.rws.length
 wlN:w.wl.Nodup
 few:w.rws.length≤27
 fl:∀ e∈w.fl,e.2.1 < 27
 flN:(w.fl.map (·.1)).Nodup
 wh:∀ p∈w.wh,p.1 < 27
 small:w.fl.length≤1000∧w.wh.length≤1000
structure Lay (r:Rl→Nat) (c:Cs) (b:B) (w:W) (S:St):Prop where
 at_:∀ x,al b w x→∃ o,S[r x]? = some o∧ob r c b w x o
 inj:∀ x y,al b w x→al b w y→r x=r y→x=y
 gb:GoodB b
 gw:GoodW w
noncomputable def upd (r:Rl→Nat) (x:Rl) (a:Nat):Rl→Nat:=fun y=>if y=x then a else r y
theorem yZ (r:Rl→Nat) (x:Rl) (a:Nat):upd r x a x=a:=if_pos rfl
theorem zB {r:Rl→Nat} {x y:Rl} (a:Nat) (h:y≠x):upd r x a y=r y:=if_neg h
section
variable {r:Rl→Nat} {c:Cs} {b:B} {w:W} {S:St}
theorem Lay.lt (L:Lay r c b w S) {x:Rl} (h:al b w x):r x < S.length:=by
 refine xEA (L.at_ x h) fun o h1 _=>?_
 rcases Nat.lt_or_ge (r x) S.length with q | q
 ·exact q
 ·rw [List.getElem?_eq_none q] at h1;exact j0 h1
theorem Lay.app (L:Lay r c b w S) (ys:List AO):Lay r c b w (S++ys):=by
 refine ⟨fun x h=>?_,L.inj,L.gb,L.gw⟩
 refine xEA (L.at_ x h) fun o h1 h2=>?_
 exact ⟨o,by rw [List.getElem?_append_left (L.lt h)];exact h1,h2⟩
theorem Lay.set (L:Lay r c b w S) {b':B} {w':W} (x0:Rl) (h0:al b w x0) {o':AO} (ho:ob r c b' w' x0 o')
  (hal:∀ x,al b' w' x→al b w x) (hk:∀ x o,x≠x0→al b' w' x→ob r c b w x o→ob r c b' w' x o)
  (g1:GoodB b') (g2:GoodW w'):Lay r c b' w' (S.set (r x0) o'):=by
 refine ⟨fun x hx=>?_,fun x y hx hy=>L.inj x y (hal x hx) (hal y hy),g1,g2⟩
 by_cases e:x=x0
 ·subst e
  exact ⟨o',List.getElem?_set_self (L.lt h0),ho⟩
 ·refine xEA (L.at_ x (hal x hx)) fun o q1 q2=>?_
  exact ⟨o,by rw [List.getElem?_set_ne (fun q=>e (L.inj x x0 (hal x hx) h0 q.symm))];exact q1,hk x o e hx q2⟩
theorem Lay.swap (L:Lay r c b w S) {b':B} {w':W} (x1 x0:Rl) (h0:al b w x0) (hne:x0≠x1) {S':St} {a:Nat} {o' o1:AO} (ha:∀ x,al b w x→r x≠a) (hS:∀ k,k < S.length→S'[k]? = S[k]?) (h1':S'[a]? = some o1)
  (ho:ob (upd r x1 a) c b' w' x0 o') (ho1:ob (upd r x1 a) c b' w' x1 o1)
  (hal:∀ x,x≠x1→al b' w' x→al b w x) (hk:∀ x o,x≠x0→x≠x1→al b' w' x→ob r c b w x o→ob (upd r x1 a) c b' w' x o)
  (g1:GoodB b') (g2:GoodW w'):Lay (upd r x1 a) c b' w' (S'.set (r x0) o'):=by
 have lt0:r x0 < S'.length:=by
  have:=hS _ (L.lt h0)
  refine xEA (L.at_ x0 h0) fun o q1 _=>?_
  rcases Nat.lt_or_ge (r x0) S'.length with q | q
  ·exact q
  ·rw [List.getElem?_eq_none q,q1] at this;exact j0 this
 refine ⟨fun x hx=>?_,fun x y hx hy q=>?_,g1,g2⟩
 ·by_cases e1:x=x1
  ·subst e1
   rw [yZ,List.getElem?_set_ne (ha x0 h0)]
   exact ⟨o1,h1',ho1⟩
  ·rw [zB _ e1]
   by_cases e:x=x0
   ·subst e
    exact ⟨o',List.getElem?_set_self lt0,ho⟩
   ·refine xEA (L.at_ x (hal x e1 hx)) fun o q1 q2=>?_
    exact ⟨o,by rw [List.getElem?_set_ne (fun q=>e (L.inj x x0 (hal x e1 hx) h0 q.symm)),hS _ (L.lt (hal x e1 hx))];exact q1,hk x o e e1 hx q2⟩
 ·by_cases e1:x=x1
  ·by_cases e2:y=x1
   ·rw [e1,e2]
   ·rw [e1,yZ,zB _ e2] at q
    exact absurd q.symm (ha y (hal y e2 hy))
  ·by_cases e2:y=x1
   ·rw [e2,yZ,zB _ e1] at q
    exact absurd q (ha x (hal x e1 hx))
   ·rw [zB _ e1,zB _ e2] at q
    exact L.inj x y (hal x e1 hx) (hal y e2 hy) q
end
noncomputable def jnH:Rl→Prop
 | .exps=>False
 | .wflows=>False
 | .hung=>False
 | _=>True
noncomputable def Keep (b:B) (w:W) (r r':Rl→Nat):Prop:=∀ x,al b w x→jnH x→r' x=r x
end Mine.Law
end
section
open PySem
namespace Mine.Law
theorem jxR {T0 T1 T2 T3:Type} {A4 A5 Z:T0→T1→T2→T3→Prop} (H:∀ P:Prop,(∀ v0 v1 v2 v3,A4 v0 v1 v2 v3→A5 v0 v1 v2 v3→Z v0 v1 v2 v3→P)→P):∃ v0 v1 v2 v3,A4 v0 v1 v2 v3∧A5 v0 v1 v2 v3∧Z v0 v1 v2 v3:=H _ fun v0 v1 v2 v3 a b z=>⟨v0,v1,v2,v3,a,b,z⟩
section
variable {α β:Type} [DecidableEq α]
theorem nR {g:α→AV} {h:β→AV} (hg:∀ x y,g x=g y→x=y) (k:α):∀ l:List (α×β),j6 (g k) (l.map fun e=>(g e.1,h e.2))=(j6 k l).map h
 | []=>rfl
 | (x,v)::r=>by
  by_cases e:x=k
  ·subst e;simp [j6]
  ·have:g x≠g k:=fun q=>e (hg _ _ q)
   simp only [List.map_cons,j6,if_neg e,if_neg this,nR hg k r]
theorem jdV {g:α→AV} {h:β→AV} (hg:∀ x y,g x=g y→x=y) (k:α) (v:β):∀ l:List (α×β),jA (g k) (h v) (l.map fun e=>(g e.1,h e.2))=(jA k v l).map fun e=>(g e.1,h e.2)
 | []=>rfl
 | (x,u)::r=>by
  by_cases e:x=k
  ·subst e;simp [jA]
  ·have:g x≠g k:=fun q=>e (hg _ _ q)
   simp only [List.map_cons,jA,if_neg e,if_neg this,jdV hg k v r]
theorem jeC {g:α→AV} {h:β→AV} (hg:∀ x y,g x=g y→x=y) (k:α):∀ l:List (α×β),yS (g k) (l.map fun e=>(g e.1,h e.2))=(yS k l).map fun e=>(g e.1,h e.2)
 | []=>rfl
 | (x,u)::r=>by
  by_cases e:x=k
  ·subst e;simp [yS]
  ·have:g x≠g k:=fun q=>e (hg _ _ q)
   simp only [List.map_cons,yS,if_neg e,if_neg this,jeC hg k r]
theorem yQ {k:α} {v:β}:∀ {l:List (α×β)},j6 k l=some v→(k,v)∈l
 | [],h=>by simp [j6] at h
 | (x,u)::r,h=>by
  by_cases e:x=k
  ·rw [j6,if_pos e] at h
   rw [← e,← Option.some.inj h];exact List.mem_cons_self
  ·rw [j6,if_neg e] at h
   exact List.mem_cons_of_mem _ (yQ h)
theorem aget_none {k:α}:∀ {l:List (α×β)},j6 k l=none ↔ k ∉ l.map (·.1)
 | []=>by simp [j6]
 | (x,u)::r=>by
  by_cases e:x=k
  ·simp [j6,e]
  ·simp [j6,e,aget_none (l:=r),Ne.symm e]
theorem adel_sub {k:α}:∀ {l:List (α×β)},(yS k l).Sublist l
 | []=>by simp [yS]
 | (x,u)::r=>by
  by_cases e:x=k
  ·simp only [yS,if_pos e];exact List.sublist_cons_self ..
  ·simp only [yS,if_neg e];exact (adel_sub (l:=r)).cons_cons _
theorem gL {k:α}:∀ {l:List (α×β)},(l.map (·.1)).Nodup→yS k l=l.filter fun e=>decide (e.1≠k)
 | [],_=>rfl
 | (x,u)::r,hN=>by
  rw [List.map_cons,List.nodup_cons] at hN
  by_cases e:x=k
  ·subst e
   simp only [yS,if_true,List.filter_cons,ne_eq,not_true,decide_false,Bool.false_eq_true,if_false]
   symm
   rw [List.filter_eq_self]
   intro p hp
   simp only [decide_eq_true_eq]
   intro q
   exact hN.1 (q▸List.mem_map_of_mem (f:=(·.1)) hp)
  ·rw [yS,if_neg e,List.filter_cons,if_pos (by simpa using e),gL hN.2]
theorem zD {k:α} {v:β}:∀ {l:List (α×β)},(l.map (·.1)).Nodup→(k,v)∈l→j6 k l=some v
 | [],_,h=>by simp at h
 | (x,u)::r,hN,h=>by
  rw [List.map_cons,List.nodup_cons] at hN
  rcases List.mem_cons.1 h with e | e
  ·refine xA (Prod.mk.inj e) fun q0q q1q=>?_;obtain rfl:=q0q;obtain rfl:=q1q;simp [j6]
  ·have:x≠k:=fun q=>hN.1 (q▸List.mem_map_of_mem (f:=(·.1)) e)
   simp only [j6,if_neg this,zD hN.2 e]
theorem wC {k:α} {v:β}:∀ {l:List (α×β)},k ∉ l.map (·.1)→jA k v l=l++[(k,v)]
 | [],_=>rfl
 | (x,u)::r,h=>by
  simp only [List.map_cons,List.mem_cons,not_or] at h
  simp only [jA,if_neg (Ne.symm h.1),wC h.2,List.cons_append]
theorem kO {k:α} {v:β}:∀ {l:List (α×β)},(jA k v l).length≤l.length+1
 | []=>by simp [jA]
 | (x,u)::r=>by
  by_cases e:x=k
  ·simp [jA,e]
  ·simp only [jA,if_neg e,List.length_cons];have:=kO (k:=k) (v:=v) (l:=r);lia
theorem yG {k:α} {v:β}:∀ {l:List (α×β)},∀ x,x∈(jA k v l).map (·.1) ↔ x=k∨x∈l.map (·.1)
 | [],x=>by simp [jA]
 | (y,u)::r,x=>by
  by_cases e:y=k
  ·simp [jA,e]
  ·simp only [jA,if_neg e,List.map_cons,List.mem_cons,yG (l:=r) x]
   constructor
   ·rintro (h | h | h)<;>simp [h]
   ·rintro (h | h | h)<;>simp [h]
theorem qG {k:α} {v:β}:∀ {l:List (α×β)},(l.map (·.1)).Nodup→((jA k v l).map (·.1)).Nodup
 | [],_=>by simp [jA]
 | (y,u)::r,h=>by
  rw [List.map_cons,List.nodup_cons] at h
  by_cases e:y=k
  ·rw [jA,if_pos e,List.map_cons,List.nodup_cons];exact h
  ·rw [jA,if_neg e,List.map_cons,List.nodup_cons]
   refine ⟨fun q=>?_,qG h.2⟩
   rcases (yG (k:=k) (v:=v) (l:=r) y).1 q with q | q
   ·exact e q
   ·exact h.1 q
end
theorem gR {f:Nat→Nat} {i:Nat} (hi:i < 27):∀ {l:List Nat},(∀ j∈l,j < 27)→j6 (AV.int (num i)) (tkE f l)=if i∈l then some (.ref (f i)) else none
 | [],_=>rfl
 | j::r,h=>by
  have hj:=h j List.mem_cons_self
  have ih:=gR (f:=f) hi (l:=r) fun k hk=>h k (List.mem_cons_of_mem _ hk)
  simp only [tkE,List.map_cons,j6,AV.int.injEq] at ih ⊢
  by_cases e:j=i
  ·subst e;simp
  ·have:num j≠num i:=fun q=>e (gU hj hi q)
   rw [if_neg this,ih]
   simp [Ne.symm e]
theorem jiG {f:Nat→Nat} {i:Nat} (hi:i < 27):∀ {l:List Nat},(∀ j∈l,j < 27)→yS (AV.int (num i)) (tkE f l)=tkE f (l.erase i)
 | [],_=>rfl
 | j::r,h=>by
  have hj:=h j List.mem_cons_self
  have ih:=jiG (f:=f) hi (l:=r) fun k hk=>h k (List.mem_cons_of_mem _ hk)
  simp only [tkE,List.map_cons,yS,AV.int.injEq] at ih ⊢
  by_cases e:j=i
  ·subst e;simp
  ·have:num j≠num i:=fun q=>e (gU hj hi q)
   rw [if_neg this,ih,List.erase_cons_tail (by simpa using e)]
   rfl
theorem jj1 {f:Nat→Nat} {i:Nat} (hi:i < 27):∀ {l:List Nat},(∀ j∈l,j < 27)→i ∉ l→jA (AV.int (num i)) (AV.ref (f i)) (tkE f l)=tkE f (l++[i])
 | [],_,_=>rfl
 | j::r,h,hn=>by
  simp only [List.mem_cons,not_or] at hn
  have hj:=h j List.mem_cons_self
  have ih:=jj1 (f:=f) hi (l:=r) (fun k hk=>h k (List.mem_cons_of_mem _ hk)) hn.2
  simp only [tkE,List.map_cons,jA,AV.int.injEq,List.cons_append] at ih ⊢
  have:num j≠num i:=fun q=>hn.1 (gU hi hj q.symm)
  rw [if_neg this,ih]
theorem jcB (k:Key) (l:List Ent):j6 (kV k) (jeW l)=(j6 k l).map vV:=nR (fun _ _=>tS) k l
theorem juU (k:Key) (l:List Ent):j6 (kV k) (flE l)=(j6 k l).map fV:=nR (fun _ _=>tS) k l
theorem jcA (k:Key) (v:Nat×Int) (l:List Ent):jA (kV k) (vV v) (jeW l)=jeW (jA k v l):=jdV (fun _ _=>tS) k v l
theorem jrQ (k:Key) (v:Nat×Int) (l:List Ent):jA (kV k) (fV v) (flE l)=flE (jA k v l):=jdV (fun _ _=>tS) k v l
theorem jx6 (k:Key) (l:List Ent):yS (kV k) (jeW l)=jeW (yS k l):=jeC (fun _ _=>tS) k l
theorem fl_del (k:Key) (l:List Ent):yS (kV k) (flE l)=flE (yS k l):=jeC (fun _ _=>tS) k l
section
variable {S:St} {k:Nat}
theorem qJ {xs:List AV} (h:S[k]? = some (.list xs)):listAt S k=some xs:=bnd h rfl
theorem q9 {fl ep:Nat} {es:List (AV×AV)} (h:S[k]? = some (.dict fl es ep)):dictAt S k=some (fl,es,ep):=bnd h rfl
theorem jgH {cl:Str} {fs:List (Str×AV)} (h:S[k]? = some (.inst cl fs)):jiV S k=some (cl,fs):=bnd h rfl
theorem jS {cl:Str} {fs:List (Str×AV)} (h:S[k]? = some (.inst cl fs)) (a:Str):kG S (.ref k) a=j6 a fs:=bnd (a:=k) rfl (bnd (jgH h) rfl)
theorem jdK {cl:Str} {fs:List (Str×AV)} (h:S[k]? = some (.inst cl fs)) (hl:fs.length≤500) (a:Str) (v:AV):y6 S (.ref k) a v=some (S.set k (.inst cl (jA a v fs))):=bnd (a:=k) rfl (bnd (jgH h) (if_pos hl))
theorem jX {i:Nat} {x:R} (h:S[k]? = some (kJ i x)):kG S (.ref k) "number" = some (.int (num i)):=(jS h _).trans rfl
theorem qP {i:Nat} {x:R} (h:S[k]? = some (kJ i x)):kG S (.ref k) "original" = some (tV x.a):=(jS h _).trans rfl
theorem x9 {i:Nat} {x:R} (h:S[k]? = some (kJ i x)):kG S (.ref k) "reply" = some (tV x.b):=(jS h _).trans rfl
theorem qH {i:Nat} {x:R} (h:S[k]? = some (kJ i x)):kG S (.ref k) "zone" = some (.int x.zone):=(jS h _).trans rfl
theorem uW {i:Nat} {x:R} (h:S[k]? = some (kJ i x)):kG S (.ref k) "until" = some (.int x.un):=(jS h _).trans rfl
theorem jmP {i:Nat} {x:R} (h:S[k]? = some (kJ i x)):kG S (.ref k) "since" = some (.int 0):=(jS h _).trans rfl
theorem jqZ {i:Nat} {x:R} (h:S[k]? = some (kJ i x)):kG S (.ref k) "mark" = some (.int 0):=(jS h _).trans rfl
theorem yR {i:Nat} {x:R} (h:S[k]? = some (kJ i x)):kG S (.ref k) "status" = some (.int x.st):=(jS h _).trans rfl
theorem jo1 {i:Nat} {x:R} (h:S[k]? = some (kJ i x)):kG S (.ref k) "state" = some (.int 0):=(jS h _).trans rfl
theorem jmR {i:Nat} {x:R} (h:S[k]? = some (kJ i x)):kG S (.ref k) "sides" = some .none:=(jS h _).trans rfl
theorem jjI {i:Nat} {x:R} (h:S[k]? = some (kJ i x)):kG S (.ref k) "master" = some (.int 0):=(jS h _).trans rfl
theorem xP {i:Nat} {x:R} (h:S[k]? = some (kJ i x)) (n:Int):y6 S (.ref k) "status" (.int n)=some (S.set k (kJ i { x with st:=n })):=(jdK h (by simp) _ _).trans rfl
theorem zE {c:Cs} {t f e g:Nat} (h:S[k]? = some (vK c t f e g)):kG S (.ref k) "table" = some (.ref t):=(jS h _).trans rfl
theorem jM {c:Cs} {t f e g:Nat} (h:S[k]? = some (vK c t f e g)):kG S (.ref k) "talks" = some (.ref f):=(jS h _).trans rfl
theorem wO {c:Cs} {t f e g:Nat} (h:S[k]? = some (vK c t f e g)):kG S (.ref k) "expects" = some (.ref e):=(jS h _).trans rfl
theorem zY {c:Cs} {t f e g:Nat} (h:S[k]? = some (vK c t f e g)):kG S (.ref k) "flows" = some (.ref g):=(jS h _).trans rfl
theorem jbW {c:Cs} {t f e g:Nat} (h:S[k]? = some (vK c t f e g)) (n:Nat):y6 S (.ref k) "expects" (.ref n)=some (S.set k (vK c t f n g)):=(jdK h (by simp) _ _).trans rfl
theorem juJ {o:AO} {m:Str} (h:S[k]? = some o) (hm:hasR m o=true):qI m (.ref k) S=true:=(congrArg (fun o=>(Option.map (hasR m) o).getD false) h).trans hm
theorem vL {o:AO} {n:Nat} {es:List (AV×AV)} (h:S[k]? = some o) (hd:isD n es o):qI "get" (.ref k) S=true:=kE hd fun fl ep q _=>juJ h (q▸rfl)
theorem uZ {xs:List AV} (h:S[k]? = some (.list xs)):qI "append" (.ref k) S=true:=juJ h rfl
theorem w7 {xs:List AV} (h:S[k]? = some (.list xs)) (hl:xs.length≤jC) (v:AV):uJ "append" (.ref k) [v] S=some (.none,S.set k (.list (xs++[v]))):=bnd (a:=k) rfl (bnd (a:=v) rfl (bnd h (if_pos ⟨rfl,hl⟩)))
theorem jeZ {o:AO} {n:Nat} {es:List (AV×AV)} (h:S[k]? = some o) (hd:isD n es o) {x:AV} (hf:j7 x=n) (hn:n≠0):uJ "get" (.ref k) [x] S=some ((j6 x es).getD .none,S):=
 kE hd fun fl ep q hfl=>bnd (a:=k) rfl (bnd (a:=x) rfl (bnd (h.trans (congrArg some q)) (if_pos ⟨rfl,hf▸hn,hfl.elim (fun e=>.inr (e.trans hf.symm)) fun e=>.inl e.1⟩)))
theorem in_of {o:AO} {n:Nat} {es:List (AV×AV)} (h:S[k]? = some o) (hd:isD n es o) {x:AV} (hf:j7 x=n) (hn:n≠0):inV S x (.ref k)=some (j6 x es).isSome:=
 kE hd fun fl ep q hfl=>bnd (h.trans (congrArg some q)) (if_pos ⟨hf▸hn,hfl.elim (fun e=>.inr (e.trans hf.symm)) fun e=>.inl e.1⟩)
theorem zP {o:AO} {n:Nat} {es:List (AV×AV)} (h:S[k]? = some o) (hd:isD n es o) {x:AV} (hf:j7 x=n) (hn:n≠0):k9 S (.ref k) x=j6 x es:=
 kE hd fun fl ep q hfl=>bnd (h.trans (congrArg some q)) (hfl.elim (fun e=>if_pos ⟨hf▸hn,e.trans hf.symm⟩) fun e=>(if_neg fun z=>hn (hf.symm.trans (z.2.symm.trans e.1))).trans (e.2▸rfl))
theorem uF {o:AO} {n:Nat} {es:List (AV×AV)} (h:S[k]? = some o) (hd:isD n es o) {x:AV} (hf:j7 x=n) (hn:n≠0) (hl:es.length≤jC) (v:AV):∃ o',isD n (jA x v es) o'∧qW S (.ref k) x v=some (S.set k o'):=
 kE hd fun fl ep q hfl=>⟨.dict (j7 x) (jA x v es) (if (j6 x es).isSome then ep else ep+1),⟨_,_,rfl,.inl hf⟩,bnd (a:=k) rfl (bnd (q9 (h.trans (congrArg some q))) (mpp (if_pos ⟨hf▸hn,hfl.elim (fun e=>.inr (e.trans hf.symm)) fun e=>.inl e.1,hl⟩) rfl))⟩
theorem jiH {o:AO} {n:Nat} {es:List (AV×AV)} (h:S[k]? = some o) (hd:isD n es o) {x:AV} (hf:j7 x=n) (hn:n≠0) (hl:es.length≤jC) (hs:(j6 x es).isSome=true):∃ o',isD n (yS x es) o'∧xV S (.ref k) x=some (S.set k o'):=
 kE hd fun fl ep q hfl=>hfl.elim (fun e=>⟨.dict fl (yS x es) (ep+1),⟨_,_,rfl,.inl e⟩,bnd (a:=k) rfl (bnd (q9 (h.trans (congrArg some q))) (if_pos ⟨hf▸hn,e.trans hf.symm,hs,hl⟩))⟩) fun e=>Bool.noConfusion (show false=true from (congrArg (fun l=>(j6 x l).isSome) e.2).symm.trans hs)
theorem tZ {o:AO} {n:Nat} {es:List (AV×AV)} (h:S[k]? = some o) (hd:isD n es o):itemsOf S (.ref k)=some (es.map (·.1),some k):=kE hd fun fl ep q hfl=>bnd (h.trans (congrArg some q)) rfl
theorem y9 {xs:List AV} (h:S[k]? = some (.list xs)):itemsOf S (.ref k)=some (xs,some k):=bnd h rfl
theorem b_list (k:Nat) (S:St):jN "list" [.ref k] S=(dictAt S k).bind fun d=>if d.2.1.length≤jC then some (.ref S.length,S++[.list (d.2.1.map (·.1))]) else none:=rfl
theorem jvP (k:Nat) (S:St):jN "sorted" [.ref k] S=(dictAt S k).bind fun d=>(jvD d.2.1).map fun l=>(.ref S.length,S++[.list l]):=rfl
theorem b_len (o:AV) (S:St):jN "len" [o] S=(lenV S o).map fun i=>(.int i,S):=rfl
theorem jpO {o:AO} {n:Nat} {es:List (AV×AV)} (h:S[k]? = some o) (hd:isD n es o) (hl:es.length≤jC):jN "list" [.ref k] S=some (.ref S.length,S++[.list (es.map (·.1))]):=
 kE hd fun fl ep q hfl=>(b_list k S).trans (bnd (q9 (h.trans (congrArg some q))) (if_pos hl))
theorem jdG (l:List Int):intsOf (l.map AV.int)=some l:=by
 induction l with
 | nil=>rfl
 | cons a r ih=>simp only [List.map_cons,intsOf,ih,Option.map_some]
theorem jn1 {l:List (Int×AV)} (hl:l.length≤60):jvD (l.map fun e=>(.int e.1,e.2))=some ((sortI (l.map (·.1))).map .int):=
 (if_pos (by rw [List.length_map];exact hl)).trans (congrArg (fun o:Option (List AV)=>o.or _) (mpp ((congrArg intsOf (show List.map (·.1) (l.map fun e=>(AV.int e.1,e.2))=(l.map (·.1)).map AV.int by simp)).trans (jdG _)) rfl))
theorem jg9 {o:AO} {l:List (Int×AV)} (h:S[k]? = some o) (hd:isD 1 (l.map fun e=>(.int e.1,e.2)) o) (hl:l.length≤60):jN "sorted" [.ref k] S=some (.ref S.length,S++[.list ((sortI (l.map (·.1))).map .int)]):=
 kE hd fun fl ep q hfl=>(jvP k S).trans (bnd (q9 (h.trans (congrArg some q))) (mpp (jn1 hl) rfl))
theorem xT {xs:List AV} (h:S[k]? = some (.list xs)) (hl:xs.length≤jC):jN "len" [.ref k] S=some (.int xs.length,S):=(b_len _ S).trans (mpp (bnd (bnd h rfl) (if_pos hl)) rfl)
theorem jcR {xs:List AV} (h:S[k]? = some (.list xs)) (i:Int):k9 S (.ref k) (.int i)=itemAt xs i:=bnd h rfl
end
theorem jK {body:Ev→St→Option Out} {t:IT} {g:Option Nat} {v:AV} {vs:List AV} {env e1 e2:Ev} {S S2:St} {r:Option Out} (h1:bindC t v env S=some e1) (h2:body e1 S=some (.nx e2 S2)) (h3:stays g S S2=true) (h:loop body t g vs e2 S2=r):loop body t g (v::vs) env S=r:=
 bnd h1 (bnd h2 ((if_pos h3).trans h))
theorem wY {body:Ev→St→Option Out} {t:IT} {g:Option Nat} {v u:AV} {vs:List AV} {env e1:Ev} {S S2:St} (h1:bindC t v env S=some e1) (h2:body e1 S=some (.rt u S2)):loop body t g (v::vs) env S=some (.rt u S2):=
 bnd h1 (bnd h2 rfl)
theorem jb4 {x y:Str} {v:AV} (h:x≠y):∀ {ρ:Loc},j6 y (jA x v ρ)=j6 y ρ
 | []=>if_neg h
 | (z,w)::ρ=>by
  unfold jA
  by_cases q:z=x
  ·rw [if_pos q,j6,j6,if_neg (q▸h),if_neg (q▸h)]
  ·rw [if_neg q,j6,j6,jb4 h]
theorem jjJ {x:Str} {v:AV}:∀ {ρ:Loc},j6 x (jA x v ρ)=some v
 | []=>if_pos rfl
 | (z,w)::ρ=>by
  unfold jA
  by_cases q:z=x
  ·rw [if_pos q,j6,if_pos q]
  ·rw [if_neg q,j6,if_neg q,jjJ]
theorem jhA {k:Str} {v:AV}:∀ {l:Loc} {u:AV},j6 k l=some u→(jA k v l).length=l.length
 | (x,w)::r,u,h=>by
  by_cases e:x=k
  ·exact (congrArg List.length (if_pos e:jA k v ((x,w)::r)=(x,v)::r)).trans rfl
  ·exact (congrArg List.length (if_neg e:jA k v ((x,w)::r)=_)).trans (congrArg Nat.succ (jhA ((if_neg e:j6 k ((x,w)::r)=_).symm.trans h)))
theorem jdI (x:Str) (v:AV) (l:Loc):j6 x (jA x v l)=some v:=jjJ
theorem mZ {x y:Str} (h:y≠x) (v:AV) (l:Loc):j6 y (jA x v l)=j6 y l:=jb4 (Ne.symm h)
theorem jjG {α β:Type} (a:α) (b:β) (r:List α) (acc:List β):r.length+(acc++[b]).length=(a::r).length+acc.length:=by simp only [List.length_append,List.length_cons,List.length_nil];lia
theorem jW (S0:St) (a:AO):(S0++[a])[S0.length]? = some a:=by rw [List.getElem?_append_right (Nat.le_refl _),Nat.sub_self];rfl
theorem gY (S0:St) (a b:AO):(S0++[a]).set S0.length b=S0++[b]:=by rw [List.set_append_right _ _ (Nat.le_refl _),Nat.sub_self];rfl
theorem wF {S0:St} {g:Nat} (hg:g < S0.length) (a b:AO):stays (some g) (S0++[a]) (S0++[b])=true:=decide_eq_true ((List.getElem?_append_left hg).trans (List.getElem?_append_left hg).symm)
section
variable {cond:AV→St→Option (Bool×St)} {put:AV→St→Option St} {g:Option Nat} {v:AV} {xs:List AV} {S S2:St} {r:Option St}
theorem jv4 (h1:cond v S=some (false,S)) (st:stays g S S=true) (h:turns cond put g xs S=r):turns cond put g (v::xs) S=r:=bnd h1 (bnd (a:=S) rfl ((if_pos st).trans h))
theorem jsI (h1:cond v S=some (true,S)) (h2:put v S=some S2) (st:stays g S S2=true) (h:turns cond put g xs S2=r):turns cond put g (v::xs) S=r:=bnd h1 (bnd (a:=S2) h2 ((if_pos st).trans h))
end
theorem ju1 {S0:St} {acc:List AV} (h:acc.length≤jC) (u:AV):jbQ S0.length u (S0++[.list acc])=some (S0++[.list (acc++[u])]):=bnd (qJ (jW _ _)) ((if_pos h).trans (congrArg some (gY _ _ _)))
theorem js7 {S0:St} {acc:List (AV×AV)} {o:AO} {n:Nat} (ho:isD n acc o) {v:AV} (hf:j7 v=n) (hn:n≠0) (h:acc.length≤jC) (hnew:v ∉ acc.map (·.1)) (u:AV):∃ o',isD n (acc++[(v,u)]) o'∧jmM S0.length v u (S0++[o])=some (S0++[o']):=
 kE ho fun fl ep q hfl=>⟨.dict (j7 v) (acc++[(v,u)]) (if (j6 v acc).isSome then ep else ep+1),⟨_,_,rfl,.inl hf⟩,bnd (q9 ((jW _ _).trans (congrArg some q))) (mpp (if_pos ⟨hf▸hn,hfl.elim (fun e=>.inr (e.trans hf.symm)) fun e=>.inl e.1,h⟩) (congrArg some ((gY _ _ _).trans (by rw [wC hnew]))))⟩
theorem mS {call:Callee} {e:IE} {env:Ev} {S S':St} {b:Bool} (h:rE call e env S=some (.bool b,S')):n7 call [e] env S=some (b,S'):=bnd h (match b with
 | true=>rfl
 | false=>rfl)
theorem wA {S0:St} {g:Nat} (hg:g < S0.length) {cond:AV→St→Option (Bool×St)} {put:AV→St→Option St} {β:Type} (p:β→Bool) (k:β→AV) (f:β→AV) (xs:List β):∀ (acc:List AV),(∀ v∈xs,∀ acc,cond (k v) (S0++[.list acc])=some (p v,S0++[.list acc]))→(∀ v∈xs,∀ acc,put (k v) (S0++[.list acc])=jbQ S0.length (f v) (S0++[.list acc]))→xs.length+acc.length≤jC→
   turns cond put (some g) (xs.map k) (S0++[.list acc])=some (S0++[.list (acc++(xs.filter p).map f)]):=by
 induction xs with
 | nil=>exact fun acc _ _ _=>congrArg (fun l=>some (S0++[AO.list l])) (List.append_nil acc).symm
 | cons v r ih=>
  intro acc hc hp hl
  have hc1:=hc v List.mem_cons_self acc
  replace ih:=fun acc'=>ih acc' (fun v hv=>hc v (List.mem_cons_of_mem _ hv)) (fun v hv=>hp v (List.mem_cons_of_mem _ hv))
  cases hv:p v with
  | false=>exact (jv4 (hv▸hc1) (wF hg _ _) (ih acc (Nat.le_trans (Nat.add_le_add_right (Nat.le_succ _) _) hl))).trans (congrArg (fun l:List β=>some (S0++[AO.list (acc++l.map f)])) (List.filter_cons_of_neg (fun q=>Bool.false_ne_true (hv.symm.trans q))).symm)
  | true=>
   have hl':r.length+(acc++[f v]).length≤jC:=jjG v _ r acc▸hl
   exact (jsI (hv▸hc1) ((hp v List.mem_cons_self acc).trans (ju1 (Nat.le_trans (Nat.le_add_left _ _) hl) _)) (wF hg _ _) (ih _ hl')).trans (congrArg (fun l=>some (S0++[AO.list l])) ((List.append_assoc ..).trans (congrArg (fun l:List β=>acc++l.map f) (List.filter_cons_of_pos hv).symm)))
theorem jmY {S0:St} {g n:Nat} (hg:g < S0.length) (hn:n≠0) {cond:AV→St→Option (Bool×St)} {put:AV→St→Option St} {β:Type} (p:β→Bool) (k:β→AV) (f:β→AV) (xs:List β) :
  ∀ (acc:List (AV×AV)) (o:AO),isD n acc o→(acc.map (·.1)++xs.map k).Nodup→(∀ v∈xs,j7 (k v)=n)→(∀ v∈xs,∀ o,cond (k v) (S0++[o])=some (p v,S0++[o]))→(∀ v∈xs,∀ o,put (k v) (S0++[o])=jmM S0.length (k v) (f v) (S0++[o]))→xs.length+acc.length≤jC→
   ∃ o',isD n (acc++(xs.filter p).map fun v=>(k v,f v)) o'∧turns cond put (some g) (xs.map k) (S0++[o])=some (S0++[o']):=by
 induction xs with
 | nil=>exact fun acc o ho _ _ _ _ _=>⟨o,(List.append_nil acc).symm▸ho,rfl⟩
 | cons v r ih=>
  intro acc o ho hN hf hc hp hl
  have hc1:=hc v List.mem_cons_self o
  replace ih:=fun acc' o' ho' hN'=>ih acc' o' ho' hN' (fun v hv=>hf v (List.mem_cons_of_mem _ hv)) (fun v hv=>hc v (List.mem_cons_of_mem _ hv)) (fun v hv=>hp v (List.mem_cons_of_mem _ hv))
  cases hv:p v with
  | false=>
   rw [List.filter_cons_of_neg (fun q=>Bool.false_ne_true (hv.symm.trans q))]
   exact xEA (ih acc o ho (hN.sublist (List.Sublist.append_left (List.sublist_cons_self ..) _)) (Nat.le_trans (Nat.add_le_add_right (Nat.le_succ _) _) hl)) fun o' q1 q2=>⟨o',q1,jv4 (hv▸hc1) (wF hg _ _) q2⟩
  | true=>
   rw [List.filter_cons_of_pos hv]
   have hl':r.length+(acc++[(k v,f v)]).length≤jC:=jjG v _ r acc▸hl
   have hnew:k v ∉ acc.map (·.1):=fun hm=>(List.nodup_append.1 hN).2.2 (k v) hm (k v) List.mem_cons_self rfl
   have hN2:((acc++[(k v,f v)]).map (·.1)++r.map k).Nodup:=by rw [List.map_append,List.append_assoc];exact hN
   exact xEA (js7 ho (hf v List.mem_cons_self) hn (Nat.le_trans (Nat.le_add_left _ _) hl) hnew (f v)) fun o1 ho1 ha=>xEA (ih _ o1 ho1 hN2 hl') fun o' q1 q2=>⟨o',Eq.mp (congrArg (fun l=>isD n l o') (List.append_assoc acc [(k v,f v)] _)) q1,jsI (hv▸hc1) ((hp v List.mem_cons_self o).trans ha) (wF hg _ _) q2⟩
end Mine.Law
end
section
open PySem
namespace Mine.Law
section
variable {r:Rl→Nat} {c:Cs} {b:B} {w:W} {S:St}
theorem Lay.book (L:Lay r c b w S):S[r .book]? = some (vK c (r .table) (r .talks) (r .exps) (r .flows)):=xEA (L.at_ .book trivial) fun o h1 h2=>h1.trans (congrArg some h2)
theorem j5 {α:Type} {l:List α} {i:Nat} {x:α} (h:l[i]? = some x):i < l.length:=(List.getElem?_eq_some_iff.1 h).1
theorem Lay.talk (L:Lay r c b w S) {i:Nat} {x:R} (hx:b.tks[i]? = some x):S[r (.talk i)]? = some (kJ i x):=
 jp3 (L.at_ (.talk i) (j5 hx)) fun o h1 y h2 h3=>h1.trans (congrArg some (h3.trans (congrArg (kJ i) (Option.some.inj (h2.symm.trans hx)))))
theorem Lay.expect (L:Lay r c b w S) {j:Nat} (hj:j∈b.el):∃ p y z,b.exs[j]? = some p∧p.1 < 27∧∀ X,(S++X)[r (.expect j)]? = some (.inst "Expect" [("master",.int (num p.1)),("t",y),("zone",z),("until",.int p.2)]):=
 jwW (L.at_ (.expect j) (L.gb.el j hj)) fun o h1 p y z h2 h3=>⟨p,y,z,h2,L.gb.exs p (List.mem_of_getElem? h2),fun X=>(List.getElem?_append_left (j5 h1)).trans (h1.trans (congrArg some h3))⟩
theorem jhX:∀ (n:Nat) (l:List Nat),l.Nodup→(∀ x∈l,x < n)→l.length≤n
 | 0,[],_,_=>Nat.le_refl _
 | 0,x::_,_,h=>absurd (h x List.mem_cons_self) (Nat.not_lt_zero _)
 | n+1,l,hN,h=>by
  by_cases hn:n∈l
  ·have:=jhX n (l.erase n) (hN.erase n) fun x hx=>by
    have h1:=h x (List.mem_of_mem_erase hx)
    have h2:x≠n:=((List.Nodup.mem_erase_iff hN).1 hx).1
    lia
   rw [List.length_erase_of_mem hn] at this
   lia
  ·have:=jhX n l hN fun x hx=>by
    have h1:=h x hx
    have h2:x≠n:=fun e=>hn (e▸hx)
    lia
   lia
theorem GoodB.b27 (g:GoodB b):∀ j∈b.bl,j < 27:=fun j hj=>Nat.lt_of_lt_of_le (g.bl j hj) g.few
theorem GoodB.bln (g:GoodB b):b.bl.length≤27:=jhX 27 _ g.blN g.b27
theorem GoodW.w27 (g:GoodW w):∀ j∈w.wl,j < 27:=fun j hj=>Nat.lt_of_lt_of_le (g.wl j hj) g.few
theorem GoodW.wln (g:GoodW w):w.wl.length≤27:=jhX 27 _ g.wlN g.w27
theorem z8 {α β:Type} {f:α→β} {l:List α} (h:l.length≤1000):(l.map f).length≤jC:=by rw [List.length_map];exact Nat.le_trans h (by decide)
theorem kU {α β:Type} {f:α→β} {l:List α} (h:l.length≤27):(l.map f).length≤jC:=z8 (Nat.le_trans h (by decide))
structure Mv (b:B) (w:W) (r:Rl→Nat) (S:St) (b1:B) (w1:W) (r1:Rl→Nat) (S1:St):Prop where
 al_:∀ y,al b w y→al b1 w1 y
 keep:∀ y,al b w y→jnH y→r1 y=r y
 new:∀ y,al b1 w1 y→(al b w y∧r1 y=r y)∨S.length≤r1 y
 len:S.length≤S1.length
 fr:∀ k,k < S.length→(∀ y,al b w y→r y≠k)→S1[k]? = S[k]?
theorem Mv.refl:Mv b w r S b w r S:=⟨fun _ h=>h,fun _ _ _=>rfl,fun _ h=>.inl ⟨h,rfl⟩,Nat.le_refl _,fun _ _ _=>rfl⟩
theorem Mv.app (ys:List AO):Mv b w r S b w r (S++ys):=⟨fun _ h=>h,fun _ _ _=>rfl,fun _ h=>.inl ⟨h,rfl⟩,by simp,fun k h _=>List.getElem?_append_left h⟩
theorem Mv.set {b1:B} {w1:W} (x0:Rl) (h0:al b w x0) (o:AO) (h1:∀ y,al b1 w1 y ↔ al b w y):Mv b w r S b1 w1 r (S.set (r x0) o):=
 ⟨fun y h=>(h1 y).2 h,fun _ _ _=>rfl,fun y h=>.inl ⟨(h1 y).1 h,rfl⟩,by simp,fun k h hk=>List.getElem?_set_ne (hk x0 h0)⟩
theorem Mv.trans {b1 b2:B} {w1 w2:W} {r1 r2:Rl→Nat} {S1 S2:St} (a:Mv b w r S b1 w1 r1 S1) (e:Mv b1 w1 r1 S1 b2 w2 r2 S2):Mv b w r S b2 w2 r2 S2:=by
 refine ⟨fun y h=>e.al_ y (a.al_ y h),fun y h hs=>(e.keep y (a.al_ y h) hs).trans (a.keep y h hs),fun y h=>?_,Nat.le_trans a.len e.len,fun k h hk=>?_⟩
 ·rcases e.new y h with ⟨h1,h2⟩ | h1
  ·rcases a.new y h1 with ⟨h3,h4⟩ | h3
   ·exact .inl ⟨h3,h2.trans h4⟩
   ·exact .inr (h2▸h3)
  ·exact .inr (Nat.le_trans a.len h1)
 ·rw [e.fr k (Nat.lt_of_lt_of_le h a.len) fun y hy=>?_,a.fr k h hk]
  rcases a.new y hy with ⟨h3,h4⟩ | h3
  ·exact h4▸hk y h3
  ·lia
theorem Mv.as {b1 b' b1':B} {w1 w' w1':W} {r1:Rl→Nat} {S1:St} (a:Mv b w r S b1 w1 r1 S1) (h:∀ y,al b' w' y ↔ al b w y) (h1:∀ y,al b1' w1' y ↔ al b1 w1 y):Mv b' w' r S b1' w1' r1 S1:=by
 refine ⟨fun y q=>(h1 y).2 (a.al_ y ((h y).1 q)),fun y q hs=>a.keep y ((h y).1 q) hs,fun y q=>?_,a.len,fun k hk hy=>a.fr k hk fun y q=>hy y ((h y).2 q)⟩
 rcases a.new y ((h1 y).1 q) with ⟨q1,q2⟩ | q1
 ·exact .inl ⟨(h y).2 q1,q2⟩
 ·exact .inr q1
theorem Mv.anew (x:Rl) (hx:¬ jnH x) (hal:∀ (b:B) (w:W),al b w x) {b1:B} {w1:W} (h1:∀ y,al b1 w1 y ↔ al b w y) (x0:Rl) (h0:al b w x0) {S':St} {a:Nat} (o:AO) (hS:∀ k,k < S.length→S'[k]? = S[k]?) (hl:S.length≤S'.length) (ha:S.length≤a):Mv b w r S b1 w1 (upd r x a) (S'.set (r x0) o):=by
 refine ⟨fun y h=>(h1 y).2 h,fun y _ hs=>zB _ fun e=>hx (e▸hs),fun y h=>?_,Nat.le_trans hl (Nat.le_of_eq List.length_set.symm),fun k hk hy=>(List.getElem?_set_ne (hy x0 h0)).trans (hS k hk)⟩
 by_cases e:y=x
 ·exact .inr (Nat.le_trans ha (Nat.le_of_eq (if_pos e).symm))
 ·exact .inl ⟨(h1 y).1 h,zB _ e⟩
theorem le_app (S:St) (o:AO):S.length≤(S++[o]).length:=by rw [List.length_append];exact Nat.le_add_right _ _
noncomputable def side (x:R) (wy:Int):T6:=if wy=0 then x.a else x.b
noncomputable def mG (i:Nat) (x:R) (wy:Int) (tab:List Ent):List Ent:=if j6 (x.zone,side x wy) tab=some (i,wy) then yS (x.zone,side x wy) tab else tab
theorem zO (i:Nat) (x:R) (wy:Int) (tab:List Ent):(mG i x wy tab).Sublist tab:=by
 delta mG
 by_cases h:j6 (x.zone,side x wy) tab=some (i,wy)
 ·exact if_pos h▸adel_sub
 ·exact if_neg h▸List.Sublist.refl _
theorem GoodB.tabSub (g:GoodB b) {t:List Ent} (h:t.Sublist b.tab):GoodB { b with tab:=t }:=
 { g with tab:=fun e he=>g.tab e (h.subset he),tabN:=g.tabN.sublist (h.map _),small:=⟨Nat.le_trans h.length_le g.small.1,g.small.2⟩}
theorem GoodB.flSub (g:GoodB b) {t:List Ent} (h:t.Sublist b.fl):GoodB { b with fl:=t }:=
 { g with fl:=fun e he=>g.fl e (h.subset he),flN:=g.flN.sublist (h.map _),small:=⟨g.small.1,Nat.le_trans h.length_le g.small.2.1,g.small.2.2⟩}
theorem Lay.setTable (L:Lay r c b w S) {t:List Ent} {o':AO} (ho:isD 4 (jeW t) o') (g:GoodB { b with tab:=t }):Lay r c { b with tab:=t } w (S.set (r .table) o'):=
 L.set .table trivial ho (fun x h=>h) (fun x o hx _ h=>by induction x using Law.Rl.casesOn<;>first | exact h | exact absurd rfl hx) g L.gw
theorem Lay.setTalks (L:Lay r c b w S) {t:List Nat} {o':AO} (ho:isD 1 (tkE (fun i=>r (.talk i)) t) o') (g:GoodB { b with bl:=t }):Lay r c { b with bl:=t } w (S.set (r .talks) o'):=
 L.set .talks trivial ho (fun x h=>h) (fun x o hx _ h=>by induction x using Law.Rl.casesOn<;>first | exact h | exact absurd rfl hx) g L.gw
theorem Lay.setFlows (L:Lay r c b w S) {t:List Ent} {o':AO} (ho:isD 4 (flE t) o') (g:GoodB { b with fl:=t }):Lay r c { b with fl:=t } w (S.set (r .flows) o'):=
 L.set .flows trivial ho (fun x h=>h) (fun x o hx _ h=>by induction x using Law.Rl.casesOn<;>first | exact h | exact absurd rfl hx) g L.gw
theorem lt_set {α:Type} {l:List α} {i n:Nat} {y:α}:n < (l.set i y).length ↔ n < l.length:=iff_of_eq (congrArg (n < ·) List.length_set)
theorem Lay.setTalk (L:Lay r c b w S) {i:Nat} {x:R} (hx:b.tks[i]? = some x) (y:R):Lay r c { b with tks:=b.tks.set i y } w (S.set (r (.talk i)) (kJ i y)):=by
 have hi:=j5 hx
 refine L.set (.talk i) hi ⟨y,List.getElem?_set_self hi,rfl⟩ (fun z h=>?_) (fun z o hz h' h=>?_) { L.gb with bl:=by simpa using L.gb.bl,few:=by simpa using L.gb.few } L.gw
 ·induction z using Law.Rl.casesOn<;>first | exact h | exact lt_set.1 h
 ·induction z using Law.Rl.casesOn<;>(try exact h)
  ·rename_i j
   refine xEA h fun q h1 h2=>?_
   refine ⟨q,?_,h2⟩
   show (b.tks.set i y)[j]? = some q
   rw [List.getElem?_set_ne (fun e=>hz (by rw [e]))];exact h1
theorem jcD {i j:Nat} (hi:i < 27) (hj:j < 27):decide (num i=num j)=decide (i=j):=decide_eq_decide.2 ⟨gU hi hj,congrArg num⟩
theorem jw1 {i:Nat} {wy:Int} (hi:i < 27) (S:St):∀ {o:Option (Nat×Int)},(∀ v,o=some v→v.1 < 27)→jO S .Eq ((o.map vV).getD .none) (.tup [.int (num i),.int wy])=some (decide (o=some (i,wy)))
 | none,_=>rfl
 | some (j,z),h=>congrArg some ((Bool.and_true _).trans ((congr (congrArg and (jcD (h _ rfl) hi)) (Bool.and_true _)).trans (Bool.eq_iff_iff.2 (by simp))))
theorem je2 {i:Nat} {x:R} (h:S[r (.talk i)]? = some (kJ i x)) (d:Nat) {wy:Int} (hw:wy=0∨wy=1):j1 prg (d+1) "side_of" [.ref (r (.talk i)),.int wy] S=some (tV (side x wy),S):=by
 rcases hw with rfl | rfl
 ·exact jgR d S (AV.ref (r (Rl.talk i))) (AV.int 0) _ (qP h)
 ·exact jgR d S (AV.ref (r (Rl.talk i))) (AV.int 1) _ (x9 h)
theorem jg5 (L:Lay r c b w S) {i:Nat} {x:R} (hx:b.tks[i]? = some x) (d:Nat) {wy:Int} (hw:wy=0∨wy=1) (k e:Option AV) :
  ∃ S' k',Lay r c { b with tab:=mG i x wy b.tab } w S'∧Mv b w r S { b with tab:=mG i x wy b.tab } w r S'∧
   rB (j1 prg (d+1)) zU [some (.ref (r .book)),some (.ref (r (.talk i))),some (.int wy),k,e] S=some (.nx [some (.ref (r .book)),some (.ref (r (.talk i))),some (.int wy),some k',e] S'):=by
 have hT:=L.talk hx
 have hB:=L.book
 refine xEA (L.at_ .table trivial) fun o hd1 hd2=>?_
 have hi:i < 27:=Nat.lt_of_lt_of_le (j5 hx) L.gb.few
 have hg:uJ "get" (.ref (r .table)) [.tup [.int x.zone,tV (side x wy)]] S=some (((j6 (x.zone,side x wy) b.tab).map vV).getD .none,S):=
  (jeZ hd1 hd2 (x:=kV (x.zone,side x wy)) rfl (by decide)).trans (congrArg (fun v:Option AV=>some (v.getD .none,S)) (jcB _ _))
 have hq:=jw1 (wy:=wy) hi S (o:=j6 (x.zone,side x wy) b.tab) fun v hv=>L.gb.tab _ (yQ hv)
 generalize hc:mG i x wy b.tab=t
 by_cases q:j6 (x.zone,side x wy) b.tab=some (i,wy)
 ·obtain rfl:=(if_pos q).symm.trans hc
  replace hq:=hq.trans (congrArg some (decide_eq_true q))
  exact xEA (jiH hd1 hd2 (x:=kV (x.zone,side x wy)) rfl (by decide) (z8 L.gb.small.1) (jcB _ _▸q▸rfl)) fun o' q1 q2=>⟨S.set (r .table) o',.tup [.int x.zone,tV (side x wy)],L.setTable (jx6 _ _▸q1) (L.gb.tabSub adel_sub),Mv.set .table trivial o' fun _=>Iff.rfl,
   blk (j1 prg (d+1)) zU [some (AV.ref (r Rl.book)),some (AV.ref (r (Rl.talk i))),some (AV.int wy),k,e] S _ (qH hT) _ (je2 hT d hw) _ (zE hB) _ (kA (vL hd1 hd2)) _ (hg) _ (jX hT) _ (hq) _ (zE hB) _ (q2)⟩
 ·obtain rfl:=(if_neg q).symm.trans hc
  replace hq:=hq.trans (congrArg some (decide_eq_false q))
  exact ⟨S,.tup [.int x.zone,tV (side x wy)],L,Mv.refl,blk (j1 prg (d+1)) zU [some (AV.ref (r Rl.book)),some (AV.ref (r (Rl.talk i))),some (AV.int wy),k,e] S _ (qH hT) _ (je2 hT d hw) _ (zE hB) _ (kA (vL hd1 hd2)) _ (hg) _ (jX hT) _ (hq)⟩
end
end Mine.Law
end
section
open PySem
namespace Mine.Law
section
variable {r:Rl→Nat} {c:Cs} {b:B} {w:W} {S:St}
theorem jhS (S:St) (a z:Int):jO S .Eq (.int a) (.int z)=some (decide (a=z)):=rfl
theorem yD {a z:Int} (h:a=z) (S:St):jO S .Eq (.int a) (.int z)=some true:=(jhS S a z).trans (congrArg some (decide_eq_true h))
theorem kD {a z:Int} (h:¬ a=z) (S:St):jO S .Eq (.int a) (.int z)=some false:=(jhS S a z).trans (congrArg some (decide_eq_false h))
theorem jaG (S:St) (a z:Int):jO S .NotEq (.int a) (.int z)=some (!decide (a=z)):=rfl
theorem jcU (a b:AV) (S:St):itemsOf S (.tup [a,b])=some ([a,b],none):=rfl
theorem b_or (a b:Int) (S:St):zK .BitOr (.int a) (.int b) S=some (.int (Builtin.bitOr a b),S):=rfl
noncomputable def yB (i:Nat) (e:Ent):Bool:=!decide (e.2.1=i)
theorem jsO {k:Key} {v:Nat×Int} {a l:List Ent} (hN:((a++(k,v)::l).map (·.1)).Nodup):yS k (a++(k,v)::l)=a++l:=by
 have h:((k,v)::l++a).map (·.1) |>.Nodup:=(List.perm_append_comm.map _).nodup hN
 have hn:=(List.nodup_cons.1 h).1
 have no:∀ {m:List Ent},(∀ e∈m,e∈l++a)→m.filter (fun e=>decide (e.1≠k))=m:=fun hm=>List.filter_eq_self.2 fun e he=>decide_eq_true fun q=>hn (q▸List.mem_map_of_mem (f:=(·.1)) (hm e he))
 rw [gL hN,List.filter_append,no fun _=>List.mem_append_right l,List.filter_cons_of_neg (by simp),no fun _=>List.mem_append_left a]
theorem jf1 (L:Lay r c b w S) {i:Nat} {x:R} (hx:b.tks[i]? = some x) (call:Callee) {dr e:Option AV} {g:Nat} (hg:r .flows≠g) (hg2:g < S.length) :
  ∀ (rest pre:List Ent) (k:Option AV) (S:St),Lay r c { b with fl:=pre.filter (yB i)++rest } w S→b.fl=pre++rest→g < S.length→
   ∃ S' k',Lay r c { b with fl:=(pre++rest).filter (yB i)} w S'∧Mv b w r S b w r S'∧
    loop (fun e S=>rB call zM e S) (.loc 3) (some g) (rest.map fun e=>kV e.1) [some (.ref (r .book)),some (.ref (r (.talk i))),dr,k,e] S=some (.nx [some (.ref (r .book)),some (.ref (r (.talk i))),dr,k',e] S')
 | [],pre,k,S,L1,hl,_=>⟨S,k,(show pre.filter (yB i)++[]=(pre++[]).filter (yB i) by rw [List.append_nil,List.append_nil])▸L1,Mv.refl,rfl⟩
 | (key,v)::rest,pre,k,S,L1,hl,hgS=>by
  refine uN fun Gq kq=>?_
  have hT:=L1.talk (i:=i) (x:=x) hx
  have hB:=L1.book
  refine xEA (L1.at_ .flows trivial) fun o hd1 hd2=>?_
  have hN:((pre.filter (yB i)++(key,v)::rest).map (·.1)).Nodup:=L1.gb.flN
  have hi:i < 27:=Nat.lt_of_lt_of_le (j5 hx) L.gb.few
  have hv:v.1 < 27:=L1.gb.fl (key,v) (List.mem_append_right _ List.mem_cons_self)
  have hgt:j6 (kV key) (flE (pre.filter (yB i)++(key,v)::rest))=some (fV v):=(juU _ _).trans (congrArg _ (zD hN (List.mem_append_right _ List.mem_cons_self)))
  have hs:k9 S (.ref (r .flows)) (kV key)=some (fV v):=(zP hd1 hd2 rfl (by decide)).trans hgt
  have h0:k9 S (fV v) (.int 0)=some (.int (num v.1)):=rfl
  have as:pre++[(key,v)]++rest=pre++(key,v)::rest:=List.append_assoc ..
  have fs:(pre++[(key,v)]).filter (yB i)=pre.filter (yB i)++[(key,v)].filter (yB i):=List.filter_append ..
  have ih:=jf1 L hx call (dr:=dr) (e:=e) hg hg2 rest (pre++[(key,v)]) (some (kV key))
  rw [as,fs,← as] at ih
  replace ih:=fun S L1=>as▸ih S L1 (hl.trans as.symm)
  by_cases hvi:v.1=i
  ·refine xEA (jiH hd1 hd2 (x:=kV key) rfl (by decide) (z8 L1.gb.small.2.1) (hgt▸rfl)) fun o' q1 q2=>?_
   replace q1:isD 4 (flE (pre.filter (yB i)++rest)) o':=jsO hN▸fl_del _ _▸q1
   have hno:[(key,v)].filter (yB i)=[]:=List.filter_cons_of_neg (by simp [yB,hvi])
   rw [hno,List.append_nil] at ih
   have L2:=L1.setFlows q1 (L1.gb.flSub (List.Sublist.append_left (List.sublist_cons_self ..) _))
   refine jB (ih _ L2 (Nat.lt_of_lt_of_eq hgS List.length_set.symm)) fun S' k' r1 r2 r3=>kq ⟨S',k',r1,(Mv.set .flows trivial o' fun y=>Iff.rfl).trans r2,?_⟩
   refine jK rfl ?_ (decide_eq_true (List.getElem?_set_ne hg)) r3
   exact (blk call zM (Ev.put [some (AV.ref (r Rl.book)),some (AV.ref (r (Rl.talk i))),dr,k,e] 3 ((fun e=>kV e.fst) (key,v))) S _ (zY hB) _ (hs) _ (h0) _ (jX hT) _ (yD (congrArg num hvi) _) _ (zY hB) _ (q2) :)
  ·have hno:[(key,v)].filter (yB i)=[(key,v)]:=List.filter_cons_of_pos (by simp [yB,hvi])
   rw [hno,List.append_assoc] at ih
   refine jB (ih S L1 hgS) fun S' k' r1 r2 r3=>kq ⟨S',k',r1,r2,?_⟩
   refine jK rfl ?_ (decide_eq_true rfl) r3
   exact (blk call zM (Ev.put [some (AV.ref (r Rl.book)),some (AV.ref (r (Rl.talk i))),dr,k,e] 3 ((fun e=>kV e.fst) (key,v))) S _ (zY hB) _ (hs) _ (h0) _ (jX hT) _ (kD (fun q=>hvi (gU hv hi q)) _) :)
noncomputable def mst (b:B) (j:Nat):Option Nat:=(b.exs[j]?).map (·.1)
noncomputable def kZ (b:B) (i:Nat) (x:R):B:={ tks:=b.tks.set i { x with st:=Builtin.bitOr x.st 512 },tab:=mG i x 1 (mG i x 0 b.tab),bl:=b.bl.erase i,fl:=b.fl.filter (yB i),exs:=b.exs,el:=b.el.filter fun j=>!decide (mst b j=some i),scn:=b.scn }
theorem tL {p:Nat×Int} {y z:AV} {k:Nat} (h:S[k]? = some (.inst "Expect" [("master",.int (num p.1)),("t",y),("zone",z),("until",.int p.2)])):kG S (.ref k) "master" = some (.int (num p.1)):=(jS h _).trans rfl
theorem jo6 (L:Lay r c b w S) {i:Nat} {x:R} (hx:b.tks[i]? = some x) (call:Callee):∃ S',Lay r c { b with bl:=b.bl.erase i } w S'∧Mv b w r S b w r S'∧∀ {a a' e:Option AV} {kn:Ev→St→Prop} {kr:AV→St→Prop},
   qS call (.ifs (.cmp .In (.attr (.loc 1) "number") (.attr (.loc 0) "talks")) [.del (.attr (.loc 0) "talks") (.attr (.loc 1) "number")] []) [some (.ref (r .book)),some (.ref (r (.talk i))),a,a',e] S kn kr→kn [some (.ref (r .book)),some (.ref (r (.talk i))),a,a',e] S':=by
 refine uN fun Gq kq=>?_
 have hT:=L.talk hx
 have hB:=L.book
 refine xEA (L.at_ .talks trivial) fun o hd1 hd2=>?_
 have hb27:=L.gb.b27
 have hg:=gR (f:=fun i=>r (.talk i)) (Nat.lt_of_lt_of_le (j5 hx) L.gb.few) hb27
 have hcm:jO S .In (.int (num i)) (.ref (r .talks))=some _:=(in_of hd1 hd2 (x:=.int (num i)) rfl (by decide)).trans (congrArg (fun v:Option AV=>some v.isSome) hg)
 by_cases h:i∈b.bl
 ·rw [if_pos h] at hcm hg
  exact xEA (jiH hd1 hd2 (x:=.int (num i)) rfl (by decide) (kU L.gb.bln) (hg▸rfl)) fun o' q1 q2=>kq ⟨S.set (r .talks) o',L.setTalks (jiG (Nat.lt_of_lt_of_le (j5 hx) L.gb.few) hb27▸q1) { L.gb with bl:=fun j hj=>L.gb.bl j (List.mem_of_mem_erase hj),blN:=L.gb.blN.erase i },Mv.set .talks trivial o' fun _=>Iff.rfl,fun H=>H _ (jX hT) _ (jM hB) _ (hcm) _ (jM hB) _ (jX hT) _ (q2)⟩
 ·rw [if_neg h] at hcm
  exact kq ⟨S,(List.erase_of_not_mem h).symm▸L,Mv.refl,fun H=>H _ (jX hT) _ (jM hB) _ (hcm)⟩
theorem Lay.newExps (L:Lay r c b w S) {t:List Nat} (hs:t.Sublist b.el):Lay (upd r .exps S.length) c { b with el:=t } w ((S++[AO.list (t.map fun j=>AV.ref (r (.expect j)))]).set (r .book) (vK c (r .table) (r .talks) S.length (r .flows))):=
 L.swap .exps .book trivial (fun q=>Rl.noConfusion q) (fun y hy=>Nat.ne_of_lt (L.lt hy)) (fun k hk=>List.getElem?_append_left hk) (jW _ _) rfl rfl (fun z _ h=>h)
  (fun z o h1 h2 _ h4=>by induction z using Law.Rl.casesOn<;>first | exact h4 | exact absurd rfl h1 | exact absurd rfl h2) { L.gb with el:=fun j hj=>L.gb.el j (hs.subset hj),small:=⟨L.gb.small.1,L.gb.small.2.1,Nat.le_trans hs.length_le L.gb.small.2.2⟩} L.gw
theorem jc3 (L:Lay r c b w S) {i:Nat} {x:R} (hx:b.tks[i]? = some x) (d:Nat) :
  ∃ r' S',Lay r' c (kZ b i x) w S'∧Mv b w r S (kZ b i x) w r' S'∧j1 prg (d+2) "drop_talk" [.ref (r .book),.ref (r (.talk i))] S=some (.none,S'):=by
 have hi:i < 27:=Nat.lt_of_lt_of_le (j5 hx) L.gb.few
 refine uN fun Gq kq=>?_
 refine jB (jg5 L hx d (.inl rfl) none none) fun S1 k1 L1 M1 e1=>?_
 refine jB (jg5 L1 hx d (.inr rfl) (some k1) none) fun S2 k2 L2 M2 e2=>?_
 refine yJ (jo6 L2 hx (j1 prg (d+1))) fun S3 L3 M3 e3=>?_
 refine xEA (L3.at_ .flows trivial) fun of hf1 hf2=>?_
 have hls:=jpO hf1 hf2 (z8 L.gb.small.2.1)
 have hkeys:(flE b.fl).map (·.1)=b.fl.map fun e=>kV e.1:=List.map_map
 rw [hkeys] at hls
 have L3':=L3.app [.list (b.fl.map fun e=>kV e.1)]
 have hg3:S3.length < (S3++[AO.list (b.fl.map fun e=>kV e.1)]).length:=j5 (jW _ _)
 refine jB (jf1 L3' hx (j1 prg (d+1)) (dr:=some (.int 1)) (e:=none) (g:=S3.length) (Nat.ne_of_lt (L3.lt (x:=.flows) trivial)) hg3 b.fl [] (some k2) _ L3' rfl hg3) fun S4 k4 L4 M4 e4=>?_
 have B3:=L3.book
 have hitems:=y9 (jW S3 (.list (b.fl.map fun e=>kV e.1)))
 have B4:=L4.book
 refine xEA (L4.at_ .exps trivial) fun oe he1 he2=>?_
 replace he1:=he1.trans (congrArg some he2)
 have hcomp:=wA (S0:=S4) (g:=r .exps) (L4.lt trivial)
  (cond:=fun v S=>n7 (j1 prg (d+1)) [.cmp .NotEq (.attr (.loc 4) "master") (.attr (.loc 1) "number")] (Ev.put [some (.ref (r .book)),some (.ref (r (.talk i))),some (.int 1),k4,none] 4 v) S)
  (put:=fun v S=>(rE (j1 prg (d+1)) (.loc 4) (Ev.put [some (.ref (r .book)),some (.ref (r (.talk i))),some (.int 1),k4,none] 4 v) S).bind fun u=>jbQ S4.length u.1 u.2)
  (fun j=>!decide (mst b j=some i)) (fun j=>.ref (r (.expect j))) (fun j=>.ref (r (.expect j))) b.el []
  (fun j hj acc=>vQ (L4.expect hj) fun p y z h1 h2 h3=>
   mS ((exq (j1 prg (d+1)) (.cmp .NotEq (.attr (.loc 4) "master") (.attr (.loc 1) "number")) [some (.ref (r .book)),some (.ref (r (.talk i))),some (.int 1),k4,some (.ref (r (.expect j)))] (S4++[AO.list acc]) _ (tL (h3 _)) _ (jX ((L4.app [.list acc]).talk (i:=i) (x:=x) hx)) _ (jaG _ (num p.1) (num i))).trans
    (congrArg (fun t=>some (AV.bool (!t),S4++[AO.list acc])) ((jcD h2 hi).trans (show _=decide ((b.exs[j]?).map (·.1)=some i) from h1▸decide_eq_decide.2 ⟨congrArg some,Option.some.inj⟩)))))
  (fun j _ acc=>rfl)
  (Nat.le_trans L.gb.small.2.2 (by decide))
 have hit:=y9 he1
 have hs:(b.el.filter fun j=>!decide (mst b j=some i)).Sublist b.el:=List.filter_sublist
 have B4':(S4++[AO.list ((b.el.filter fun j=>!decide (mst b j=some i)).map fun j=>AV.ref (r (.expect j)))])[r .book]? = some (vK c (r .table) (r .talks) (r .exps) (r .flows)):=(List.getElem?_append_left (j5 B4)).trans B4
 have L5:=L4.newExps hs
 have T5:=L5.talk (i:=i) (x:=x) hx
 have L6:=L5.setTalk (i:=i) (x:=x) hx { x with st:=Builtin.bitOr x.st 512 }
 have hal:∀ y,al (kZ b i x) w y ↔ al b w y:=fun y=>by
  induction y using Law.Rl.casesOn<;>first | exact Iff.rfl | exact lt_set
 have M5:=Mv.anew (b:=b) (w:=w) (r:=r) (S:=S4) (S':=S4++[AO.list ((b.el.filter fun j=>!decide (mst b j=some i)).map fun j=>AV.ref (r (.expect j)))]) .exps id (fun _ _=>trivial) (fun _=>Iff.rfl) .book trivial (vK c (r .table) (r .talks) S4.length (r .flows)) (fun k hk=>List.getElem?_append_left hk) (le_app _ _) (Nat.le_refl _)
 have M6:=Mv.set (b:=b) (w:=w) (r:=upd r .exps S4.length) (S:=(S4++[AO.list ((b.el.filter fun j=>!decide (mst b j=some i)).map fun j=>AV.ref (r (.expect j)))]).set (r .book) (vK c (r .table) (r .talks) S4.length (r .flows))) (.talk i) (j5 hx) (kJ i { x with st:=Builtin.bitOr x.st 512 }) hal
 have as:∀ {b1 b2:B} {S S':St},Mv b1 w r S b2 w r S'→(∀ y,al b w y ↔ al b1 w y)→(∀ y,al b w y ↔ al b2 w y)→Mv b w r S b w r S':=fun M h h'=>M.as h h'
 refine kq ⟨upd r .exps S4.length,_,L6,((((((as M1 (fun _=>Iff.rfl) fun _=>Iff.rfl).trans (as M2 (fun _=>Iff.rfl) fun _=>Iff.rfl)).trans (as M3 (fun _=>Iff.rfl) fun _=>Iff.rfl)).trans (Mv.app _)).trans (as M4 (fun _=>Iff.rfl) fun _=>Iff.rfl)).trans M5).trans M6,?_⟩
 exact e3 (jjW (d+1) S (AV.ref (r Rl.book)) (AV.ref (r (Rl.talk i))) _ (jcU _ _ S) _ (jK rfl e1 rfl (jK rfl e2 rfl rfl))) _ (zY B3) _ (hls) _ (hitems) _ (e4) _ (wO B4) _ (hit) _ (kA rfl) _ (hcomp) _ (jbW B4' _) _ (yR T5) _ (b_or _ _ _) _ (xP T5 _)
end
end Mine.Law
end
section
open PySem
namespace Mine.Law
noncomputable def jlQ (b:B):Prop:=∀ e∈b.tab,e.2.1∈b.bl
noncomputable def kF (b:B) (z:Int) (t:T6) (now:Int):B×Option (Nat×Int):=match j6 (z,t) b.tab with
 | none=>(b,none)
 | some (i,wy)=>match b.tks[i]? with
  | none=>(b,none)
  | some x=>if x.un≤now then (kZ b i x,none) else (b,some (i,wy))
noncomputable def hitV (r:Rl→Nat):Option (Nat×Int)→AV
 | none=>.none
 | some (i,wy)=>.tup [.ref (r (.talk i)),.int wy]
section
variable {r:Rl→Nat} {c:Cs} {b:B} {w:W} {S:St}
theorem Lay.sub_talks (L:Lay r c b w S) {i:Nat} (hi:i∈b.bl):k9 S (.ref (r .talks)) (.int (num i))=some (.ref (r (.talk i))):=
 xEA (L.at_ .talks trivial) fun o hd1 hd2=>(zP hd1 hd2 (x:=.int (num i)) rfl (by decide)).trans ((gR (L.gb.b27 i hi) L.gb.b27).trans (if_pos hi))
theorem jqX (S:St) (a z:Int):jO S .LtE (.int a) (.int z)=some (decide (a≤z)):=rfl
theorem le_t {a z:Int} (h:a≤z) (S:St):jO S .LtE (.int a) (.int z)=some true:=congrArg some (decide_eq_true h)
theorem le_f {a z:Int} (h:¬ a≤z) (S:St):jO S .LtE (.int a) (.int z)=some false:=congrArg some (decide_eq_false h)
theorem jpV (a b:Int) (S:St):zK .BitAnd (.int a) (.int b) S=some (.int (Builtin.bitAnd a b),S):=rfl
theorem uB (a b:Int) (S:St):zK .Add (.int a) (.int b) S=some (.int (a+b),S):=rfl
theorem jt8 (a b:Int) (S:St):zK .Sub (.int a) (.int b) S=some (.int (a - b),S):=rfl
theorem is_none (S:St):jO S .Is .none .none=some true:=rfl
theorem jnM (xs:List AV) (S:St):jO S .Is (.tup xs) .none=some false:=rfl
theorem v_0 (v:Nat×Int) (S:St):k9 S (vV v) (.int 0)=some (.int (num v.1)):=rfl
theorem v_1 (v:Nat×Int) (S:St):k9 S (vV v) (.int 1)=some (.int v.2):=rfl
theorem zC {P:B×Option (Nat×Int)→Prop} {z:Int} {t:T6} {now:Int} (h0:j6 (z,t) b.tab=none→P (b,none)) (h1:∀ v,j6 (z,t) b.tab=some v→b.tks[v.1]? = none→P (b,none))
  (h2:∀ v x,j6 (z,t) b.tab=some v→b.tks[v.1]? = some x→x.un≤now→P (kZ b v.1 x,none)) (h3:∀ v x,j6 (z,t) b.tab=some v→b.tks[v.1]? = some x→¬ x.un≤now→P (b,some v)):P (kF b z t now):=by
 delta kF
 cases hv:j6 (z,t) b.tab with
 | none=>exact h0 hv
 | some v=>
  show P (match b.tks[v.1]? with | none=>(b,none) | some x=>if x.un≤now then (kZ b v.1 x,none) else (b,some (v.1,v.2)))
  cases hx:b.tks[v.1]? with
  | none=>exact h1 v hv hx
  | some x=>
   show P (if x.un≤now then (kZ b v.1 x,none) else (b,some v))
   by_cases hu:x.un≤now
   ·rw [if_pos hu];exact h2 v x hv hx hu
   ·rw [if_neg hu];exact h3 v x hv hx hu
theorem mW (L:Lay r c b w S) (ht:jlQ b) (z:Int) (t:T6) (now:Int) (d:Nat) :
  ∃ r' S',Lay r' c (kF b z t now).1 w S'∧Mv b w r S (kF b z t now).1 w r' S'∧j1 prg (d+3) "look_up" [.ref (r .book),.int z,tV t,.int now] S=some (hitV r (kF b z t now).2,S'):=by
 have hB:=L.book
 refine xEA (L.at_ .table trivial) fun o hd1 hd2=>?_
 have hg:uJ "get" (.ref (r .table)) [.tup [.int z,tV t]] S=some (((j6 (z,t) b.tab).map vV).getD .none,S):=
  (jeZ hd1 hd2 (x:=kV (z,t)) rfl (by decide)).trans (congrArg (fun v:Option AV=>some (v.getD .none,S)) (jcB _ _))
 have run:=(jr2 (d+2) S (AV.ref (r Rl.book)) (AV.int z) (tV t) (AV.int now) _ (zE hB) _ (kA (vL hd1 hd2)) _ (hg) :)
 have live:∀ v,j6 (z,t) b.tab=some v→v.1∈b.bl:=fun v hv=>ht _ (yQ hv)
 refine zC (P:=fun F=>∃ r' S',Lay r' c F.1 w S'∧Mv b w r S F.1 w r' S'∧j1 prg (d+3) "look_up" [.ref (r .book),.int z,tV t,.int now] S=some (hitV r F.2,S')) (fun hv=>?_) (fun v hv hx=>?_) (fun v x hv hx hu=>?_) fun v x hv hx hu=>?_
 ·rw [hv] at run
  exact ⟨r,S,L,Mv.refl,(run _ (is_none S) :)⟩
 ·exact absurd (L.gb.bl v.1 (live v hv)) (Nat.not_lt.2 (List.getElem?_eq_none_iff.1 hx))
 ·rw [hv] at run
  exact jB (jc3 L hx d) fun r' S' L' M' e'=>⟨r',S',L',M',(run _ (jnM _ S) _ (jM hB) _ (v_0 v S) _ (L.sub_talks (live v hv)) _ (uW (L.talk hx)) _ (le_t hu S) _ (e') :)⟩
 ·rw [hv] at run
  exact ⟨r,S,L,Mv.refl,(run _ (jnM _ S) _ (jM hB) _ (v_0 v S) _ (L.sub_talks (live v hv)) _ (uW (L.talk hx)) _ (le_f hu S) _ (v_1 v S) :)⟩
noncomputable def sweepL (now:Int):List Nat→B×Int→B×Int
 | [],p=>p
 | i::l,p=>sweepL now l (match p.1.tks[i]? with
  | none=>p
  | some x=>if x.un≤now then (kZ p.1 i x,p.2+1) else p)
noncomputable def kH (b:B) (now:Int):B×Int:=sweepL now b.bl (b,0)
theorem nG (d:Nat) (now:Int) (g:Nat):∀ (l:List Nat) (r:Rl→Nat) (b:B) (S:St) (n:Int) (k:Option AV),Lay r c b w S→l.Nodup→(∀ i∈l,i∈b.bl)→(∀ y,al b w y→r y≠g)→g < S.length→
  ∃ r' S' k',Lay r' c (sweepL now l (b,n)).1 w S'∧Mv b w r S (sweepL now l (b,n)).1 w r' S'∧loop (fun e S=>rB (j1 prg (d+2)) x7 e S) (.loc 3) (some g) (l.map fun i=>.int (num i)) [some (.ref (r .book)),some (.int now),some (.int n),k] S=some (.nx [some (.ref (r .book)),some (.int now),some (.int (sweepL now l (b,n)).2),k'] S')
 | [],r,b,S,n,k,L,_,_,_,_=>⟨r,S,k,L,Mv.refl,rfl⟩
 | i::l,r,b,S,n,k,L,hN,hl,hg,hgS=>by
  have hN:=List.nodup_cons.1 hN
  have hib:=hl i List.mem_cons_self
  refine xE (⟨_,List.getElem?_eq_getElem (L.gb.bl i hib)⟩:∃ x,b.tks[i]? = some x) fun x hx=>?_
  have hT:=L.talk hx
  have hB:=L.book
  show ∃ r' S' k',Lay r' c (sweepL now l (match b.tks[i]? with | none=>(b,n) | some x=>if x.un≤now then (kZ b i x,n+1) else (b,n))).1 w S'∧Mv b w r S (sweepL now l (match b.tks[i]? with | none=>(b,n) | some x=>if x.un≤now then (kZ b i x,n+1) else (b,n))).1 w r' S'∧
   _=some (Out.nx [some (.ref (r .book)),some (.int now),some (.int (sweepL now l (match b.tks[i]? with | none=>(b,n) | some x=>if x.un≤now then (kZ b i x,n+1) else (b,n))).2),k'] S')
  rw [hx]
  dsimp only
  by_cases hu:x.un≤now
  ·rw [if_pos hu]
   refine jB (jc3 L hx d) fun r1 S1 L1 M1 e1=>?_
   have hg1:∀ y,al (kZ b i x) w y→r1 y≠g:=fun y hy=>(M1.new y hy).elim (fun q=>q.2▸hg y q.1) fun q e=>Nat.not_lt.2 q (e▸hgS)
   refine vQ (nG d now g l r1 (kZ b i x) S1 (n+1) (some (.int (num i))) L1 hN.2 (fun j hj=>(List.mem_erase_of_ne fun e:j=i=>hN.1 (e▸hj)).2 (hl j (List.mem_cons_of_mem _ hj))) hg1 (Nat.lt_of_lt_of_le hgS M1.len)) fun r' S' k' L' M' e'=>⟨r',S',k',L',M1.trans M',?_⟩
   rw [M1.keep .book trivial trivial] at e'
   refine jK rfl ?_ (decide_eq_true (M1.fr g hgS hg)) e'
   exact blk (j1 prg (d+2)) x7 (Ev.put [some (AV.ref (r Rl.book)),some (AV.int now),some (AV.int n),k] 3 ((fun i=>AV.int (num i)) i)) S _ (jM hB) _ (L.sub_talks hib) _ (uW hT) _ (le_t hu S) _ (jM hB) _ (L.sub_talks hib) _ (e1) _ (uB n 1 S1)
  ·rw [if_neg hu]
   refine vQ (nG d now g l r b S n (some (.int (num i))) L hN.2 (fun j hj=>hl j (List.mem_cons_of_mem _ hj)) hg hgS) fun r' S' k' L' M' e'=>⟨r',S',k',L',M',?_⟩
   refine jK rfl ?_ (decide_eq_true rfl) e'
   exact blk (j1 prg (d+2)) x7 (Ev.put [some (AV.ref (r Rl.book)),some (AV.int now),some (AV.int n),k] 3 ((fun i=>AV.int (num i)) i)) S _ (jM hB) _ (L.sub_talks hib) _ (uW hT) _ (le_f hu S)
theorem Lay.list_talks (L:Lay r c b w S):jN "list" [.ref (r .talks)] S=some (.ref S.length,S++[.list (b.bl.map fun i=>.int (num i))]):=
 xEA (L.at_ .talks trivial) fun o hd1 hd2=>(jpO hd1 hd2 (kU L.gb.bln)).trans (congrArg (fun l=>some (AV.ref S.length,S++[AO.list l])) List.map_map)
theorem jd6 (L:Lay r c b w S) (now:Int) (d:Nat) :
  ∃ r' S',Lay r' c (kH b now).1 w S'∧Mv b w r S (kH b now).1 w r' S'∧j1 prg (d+3) "sweep" [.ref (r .book),.int now] S=some (.int (kH b now).2,S'):=by
 have hB:=L.book
 have hs:=jW S (.list (b.bl.map fun i=>.int (num i)))
 exact vQ (nG d now S.length b.bl r b (S++[.list (b.bl.map fun i=>.int (num i))]) 0 none (L.app _) L.gb.blN (fun _ h=>h) (fun y hy=>Nat.ne_of_lt (L.lt hy)) (j5 hs)) fun r' S' k' L' M' e'=>
  ⟨r',S',L',(Mv.app _).trans M',jwO (d+2) S (AV.ref (r Rl.book)) (AV.int now) _ (jM hB) _ (L.list_talks) _ (y9 hs) _ (e')⟩
end
end Mine.Law
end
section
open PySem
namespace Mine.Law
section
variable {α β:Type}
theorem jgW (lt:β→β→Bool) (f:α→β) (x:α):∀ l:List α,v8 lt (f x) (l.map f)=(v8 (fun a b=>lt (f a) (f b)) x l).map f
 | []=>rfl
 | y::r=>by
  simp only [List.map_cons,v8]
  by_cases h:lt (f x) (f y)=true
  ·rw [if_pos h,if_pos h];rfl
  ·rw [if_neg h,if_neg h,jgW lt f x r];rfl
theorem jdH (lt:β→β→Bool) (f:α→β):∀ l:List α,sortBy lt (l.map f)=(sortBy (fun a b=>lt (f a) (f b)) l).map f
 | []=>rfl
 | x::r=>by
  simp only [List.map_cons,sortBy,jdH lt f r,jgW]
theorem jaI (lt:α→α→Bool) (x y:α):∀ l:List α,y∈v8 lt x l ↔ y=x∨y∈l
 | []=>by simp [v8]
 | z::r=>by
  simp only [v8]
  by_cases h:lt x z=true
  ·rw [if_pos h];simp
  ·rw [if_neg h,List.mem_cons,jaI lt x y r,List.mem_cons]
   constructor
   ·rintro (h | h | h)<;>simp [h]
   ·rintro (h | h | h)<;>simp [h]
theorem uY (lt:α→α→Bool) (y:α):∀ l:List α,y∈sortBy lt l ↔ y∈l
 | []=>Iff.rfl
 | x::r=>by
  rw [sortBy,jaI,uY lt y r,List.mem_cons]
end
noncomputable def kR (l:List Nat):List Nat:=sortBy (fun a b=>decide (num a < num b)) l
theorem jb3 (l:List Nat):sortI (l.map num)=(kR l).map num:=jdH _ num l
noncomputable def weak (b:B) (i:Nat):Bool:=match b.tks[i]? with
 | none=>false
 | some x=>decide (Builtin.bitAnd x.st 4=0)
noncomputable def jcZ (b:B) (i:Nat):B:=match b.tks[i]? with
 | none=>b
 | some x=>kZ b i x
noncomputable def uG (b:B) (now:Int):B×Bool:=if (kH b now).2 > 0 then ((kH b now).1,true) else
 match (kR (kH b now).1.bl).find? (weak (kH b now).1) with
 | none=>((kH b now).1,false)
 | some i=>(jcZ (kH b now).1 i,true)
section
variable {r:Rl→Nat} {c:Cs} {b:B} {w:W} {S:St}
theorem je7 (L:Lay r c b w S) (d:Nat) (now:Int) (g:Nat):∀ (l:List Nat) (k:Option AV),(∀ i∈l,i∈b.bl)→
  match l.find? (weak b) with
  | none=>∃ k',loop (fun e S=>rB (j1 prg (d+2)) qC e S) (.loc 2) (some g) (l.map fun i=>.int (num i)) [some (.ref (r .book)),some (.int now),k] S=some (.nx [some (.ref (r .book)),some (.int now),k'] S)
  | some i=>∃ r' S',Lay r' c (jcZ b i) w S'∧Mv b w r S (jcZ b i) w r' S'∧loop (fun e S=>rB (j1 prg (d+2)) qC e S) (.loc 2) (some g) (l.map fun i=>.int (num i)) [some (.ref (r .book)),some (.int now),k] S=some (.rt (.bool true) S')
 | [],k,_=>⟨k,rfl⟩
 | i::l,k,hl=>by
  refine uN fun Gq kq=>?_
  have hib:=hl i List.mem_cons_self
  have hi:=L.gb.bl i hib
  obtain ⟨x,hx⟩:∃ x,b.tks[i]? = some x:=⟨b.tks[i],List.getElem?_eq_getElem hi⟩
  have hT:=L.talk hx
  have hB:=L.book
  refine kq ?_
  by_cases hw:Builtin.bitAnd x.st 4=0
  ·have hwk:weak b i=true:=by simp only [weak,hx,hw,decide_true]
   rw [List.find?_cons,hwk]
   refine jB (jc3 L hx d) fun r1 S1 L1 M1 e1=>?_
   have hd:jcZ b i=kZ b i x:=by simp only [jcZ,hx]
   refine ⟨r1,S1,by rw [hd];exact L1,by rw [hd];exact M1,?_⟩
   refine wY rfl ?_
   exact blk (j1 prg (d+2)) qC (Ev.put [some (AV.ref (r Rl.book)),some (AV.int now),k] 2 ((fun i=>AV.int (num i)) i)) S _ (jM hB) _ (L.sub_talks hib) _ (yR hT) _ (jpV _ 4 S) _ (yD hw S) _ (jM hB) _ (L.sub_talks hib) _ (e1)
  ·have hwk:weak b i=false:=by simp only [weak,hx,hw,decide_false]
   rw [List.find?_cons,hwk]
   have ih:=je7 L d now g l (some (.int (num i))) (fun j hj=>hl j (List.mem_cons_of_mem _ hj))
   have hst:stays (some g) S S=true:=decide_eq_true rfl
   cases hf:l.find? (weak b) with
   | none=>
    rw [hf] at ih
    refine xE ih fun k' e'=>?_
    refine ⟨k',?_⟩
    refine jK rfl ?_ hst e'
    exact blk (j1 prg (d+2)) qC (Ev.put [some (AV.ref (r Rl.book)),some (AV.int now),k] 2 ((fun i=>AV.int (num i)) i)) S _ (jM hB) _ (L.sub_talks hib) _ (yR hT) _ (jpV _ 4 S) _ (kD hw S)
   | some j=>
    rw [hf] at ih
    refine jB ih fun r' S' L' M' e'=>?_
    refine ⟨r',S',L',M',?_⟩
    refine jK rfl ?_ hst e'
    exact blk (j1 prg (d+2)) qC (Ev.put [some (AV.ref (r Rl.book)),some (AV.int now),k] 2 ((fun i=>AV.int (num i)) i)) S _ (jM hB) _ (L.sub_talks hib) _ (yR hT) _ (jpV _ 4 S) _ (kD hw S)
theorem Lay.sorted_talks (L:Lay r c b w S):jN "sorted" [.ref (r .talks)] S=some (.ref S.length,S++[.list ((kR b.bl).map fun i=>.int (num i))]):=by
 refine xEA (L.at_ .talks trivial) fun o hd1 hd2=>?_
 have hd3:isD 1 ((b.bl.map fun i=>(num i,AV.ref (r (.talk i)))).map fun e=>(.int e.1,e.2)) o:=by
  rw [List.map_map];exact hd2
 rw [jg9 hd1 hd3 (by rw [List.length_map];exact Nat.le_trans L.gb.bln (by decide))]
 have:(b.bl.map fun i=>(num i,AV.ref (r (.talk i)))).map (·.1)=b.bl.map num:=by simp
 rw [this,jb3,List.map_map]
 rfl
theorem gt_t {a z:Int} (h:a > z) (S:St):jO S .Gt (.int a) (.int z)=some true:=congrArg some (decide_eq_true h)
theorem gt_f {a z:Int} (h:¬ a > z) (S:St):jO S .Gt (.int a) (.int z)=some false:=congrArg some (decide_eq_false h)
theorem juA (L:Lay r c b w S) (now:Int) (d:Nat) :
  ∃ r' S',Lay r' c (uG b now).1 w S'∧Mv b w r S (uG b now).1 w r' S'∧j1 prg (d+4) "evict" [.ref (r .book),.int now] S=some (.bool (uG b now).2,S'):=by
 refine jB (jd6 L now d) fun r1 S1 L1 M1 e1=>?_
 have hb1:r1 .book=r .book:=M1.keep .book trivial trivial
 have hB:=L1.book
 rw [hb1] at hB
 by_cases hp:(kH b now).2 > 0
 ·have he:uG b now=((kH b now).1,true):=by simp only [uG,if_pos hp]
  rw [he]
  refine ⟨r1,S1,L1,M1,?_⟩
  exact jhU (d+3) S (AV.ref (r Rl.book)) (AV.int now) _ (e1) _ (gt_t hp S1)
 ·have hitems:itemsOf (S1++[AO.list ((kR (kH b now).1.bl).map fun i=>.int (num i))]) (.ref S1.length)=some ((kR (kH b now).1.bl).map fun i=>.int (num i),some S1.length):=y9 (by simp)
  have ih:=je7 (L1.app [AO.list ((kR (kH b now).1.bl).map fun i=>.int (num i))]) (d+1) now S1.length (kR (kH b now).1.bl) none (fun i hi=>(uY _ _ _).1 hi)
  rw [hb1] at ih
  have hs:=L1.sorted_talks
  cases hf:(kR (kH b now).1.bl).find? (weak (kH b now).1) with
  | none=>
   rw [hf] at ih
   refine uN fun Gq kq=>?_
   refine xE ih fun k' e'=>?_
   have he:uG b now=((kH b now).1,false):=by simp only [uG,if_neg hp,hf]
   refine kq ?_
   rw [he]
   refine ⟨r1,S1++[AO.list ((kR (kH b now).1.bl).map fun i=>.int (num i))],L1.app _,M1.trans (Mv.app _),?_⟩
   exact jhU (d+3) S (AV.ref (r Rl.book)) (AV.int now) _ (e1) _ (gt_f hp S1) _ (jM hB) _ (hs) _ (hitems) _ (e')
  | some i=>
   rw [hf] at ih
   refine jB ih fun r' S' L' M' e'=>?_
   have he:uG b now=(jcZ (kH b now).1 i,true):=by simp only [uG,if_neg hp,hf]
   rw [he]
   refine ⟨r',S',L',M1.trans ((Mv.app _).trans M'),?_⟩
   exact jhU (d+3) S (AV.ref (r Rl.book)) (AV.int now) _ (e1) _ (gt_f hp S1) _ (jM hB) _ (hs) _ (hitems) _ (e')
end
end Mine.Law
end
section
open PySem
namespace Mine.Law
theorem z0 {α β:Type} [DecidableEq α] {k:α} {v:β}:∀ {l:List (α×β)} {e:α×β},e∈jA k v l→e=(k,v)∨e∈l
 | [],e,h=>.inl (List.mem_singleton.1 h)
 | (x,u)::r,e,h=>by
  by_cases q:x=k
  ·have h:e∈(x,v)::r:=(if_pos q:jA k v ((x,u)::r)=(x,v)::r)▸h
   exact (List.mem_cons.1 h).elim (fun h=>.inl (q▸h)) fun h=>.inr (List.mem_cons_of_mem _ h)
  ·have h:e∈(x,u)::jA k v r:=(if_neg q:jA k v ((x,u)::r)=(x,u)::jA k v r)▸h
   exact (List.mem_cons.1 h).elim (fun h=>.inr (h▸List.mem_cons_self)) fun h=>(z0 h).elim .inl fun h=>.inr (List.mem_cons_of_mem _ h)
noncomputable def addB (b:B) (i:Nat) (x:R):B:={ b with tks:=b.tks.set i { x with st:=Builtin.bitOr x.st 8 },tab:=jA (x.zone,x.b) (i,1) (jA (x.zone,x.a) (i,0) b.tab),bl:=b.bl++[i]}
noncomputable def jkK (b:B) (i:Nat) (now:Int) (x:R):B×Bool:=if Builtin.bitAnd x.st 8=0 then (
  if (kF b x.zone x.a now).2.isSome=true then ((kF b x.zone x.a now).1,true) else
  if (kF (kF b x.zone x.a now).1 x.zone x.b now).2.isSome=true then ((kF (kF b x.zone x.a now).1 x.zone x.b now).1,true) else
  (addB (kF (kF b x.zone x.a now).1 x.zone x.b now).1 i x,false)) else (b,false)
noncomputable def tG (b:B) (i:Nat) (now:Int):B×Bool:=match b.tks[i]? with
 | none=>(b,false)
 | some x=>jkK b i now x
theorem joJ {b:B} {i:Nat} {x:R} (hx:b.tks[i]? = some x) (now:Int):tG b i now=jkK b i now x:=by delta tG;rw [hx]
noncomputable def jkU (b:Bool):AV:=if b=true then .tup [.str "drop",.str ""] else .none
theorem uT {α:Type} {P:α→Prop} {c:Prop} [d:Decidable c] {a z:α} (h1:c→P a) (h2:¬ c→P z):P (ite c a z):=match d with
 | .isTrue h=>h1 h
 | .isFalse h=>h2 h
theorem jq7 (b:B) {i j:Nat} (x:R) (h:i≠j):(kZ b i x).tks[j]? = b.tks[j]?:=List.getElem?_set_ne h
theorem jh4 {b:B} (ht:jlQ b) {j:Nat} (hj:j ∉ b.bl) (z:Int) (t:T6) (now:Int):(kF b z t now).1.tks[j]? = b.tks[j]?:=
 zC (P:=fun F=>F.1.tks[j]? = b.tks[j]?) (fun _=>rfl) (fun _ _ _=>rfl) (fun v x hv _ _=>jq7 b x fun e:v.1=j=>hj (e▸ht _ (yQ hv))) fun _ _ _ _ _=>rfl
theorem jm2 {b:B} {j:Nat} (hj:j ∉ b.bl) (z:Int) (t:T6) (now:Int):j ∉ (kF b z t now).1.bl:=
 zC (P:=fun F=>j ∉ F.1.bl) (fun _=>hj) (fun _ _ _=>hj) (fun _ _ _ _ _ h=>hj (List.mem_of_mem_erase h)) fun _ _ _ _ _=>hj
theorem jgA {b:B} (z:Int) (t:T6) (now:Int):(kF b z t now).1.tab.length≤b.tab.length:=
 zC (P:=fun F=>F.1.tab.length≤b.tab.length) (fun _=>Nat.le_refl _) (fun _ _ _=>Nat.le_refl _) (fun v x _ _ _=>((zO v.1 x 1 _).trans (zO v.1 x 0 _)).length_le) fun _ _ _ _ _=>Nat.le_refl _
theorem jrG {b:B} (z:Int) (t:T6) (now:Int):(kF b z t now).1.scn=b.scn:=
 zC (P:=fun F=>F.1.scn=b.scn) (fun _=>rfl) (fun _ _ _=>rfl) (fun _ _ _ _ _=>rfl) fun _ _ _ _ _=>rfl
section
variable {r:Rl→Nat} {c:Cs} {b:B} {w:W} {S:St}
theorem Lay.scene (L:Lay r c b w S) {i:Nat} {n:Int} (hn:b.scn[i]? = some n):∃ fs,S[r (.scene i)]? = some (.inst "Scene" fs)∧fs.length≤100∧kG S (.ref (r (.scene i))) "talk" = some (.ref (r (.talk i)))∧kG S (.ref (r (.scene i))) "talks" = some (.ref (r .book))∧kG S (.ref (r (.scene i))) "now" = some (.int n):=
 jeF (L.at_ (.scene i) (j5 hn)) fun o h1 fs m h2 h3 h4 h5 h6 h7=>(fun h1=>⟨fs,h1,h4,(jS h1 _).trans h5,(jS h1 _).trans h6,(jS h1 _).trans (h7.trans (congrArg (fun n=>some (AV.int n)) (Option.some.inj (h2.symm.trans hn))))⟩) (h1.trans (congrArg some h3))
theorem nK {l:List Nat} {i:Nat} (h:l.Nodup) (hi:i ∉ l):(l++[i]).Nodup:=List.nodup_append.2 ⟨h,List.nodup_cons.2 ⟨List.not_mem_nil,List.nodup_nil⟩,fun a ha c hc e=>hi (List.mem_singleton.1 hc▸e▸ha)⟩
theorem GoodB.addTab (g:GoodB b) {i:Nat} (hi:i < 27) (k:Key) (z:Int) (hs:b.tab.length≤990):GoodB { b with tab:=jA k (i,z) b.tab }:={ g with
 tab:=fun e he=>(z0 he).elim (fun h=>h▸hi) (g.tab e)
 tabN:=qG g.tabN
 small:=⟨Nat.le_trans kO (Nat.le_trans (Nat.succ_le_succ hs) (by decide)),g.small.2⟩}
theorem js1 (L:Lay r c b w S) {i:Nat} {x:R} (hx:b.tks[i]? = some x) (hib:i ∉ b.bl) (hs:b.tab.length≤900) (call:Callee) {e0 e3:Option AV} :
  ∃ S',Lay r c (addB b i x) w S'∧Mv b w r S (addB b i x) w r S'∧∀ {kn:Ev→St→Prop} {kr:AV→St→Prop},
   qB call [.set (.sub (.attr (.loc 1) "table") (.tup [.attr (.loc 2) "zone",.attr (.loc 2) "original"])) (.tup [.attr (.loc 2) "number",.con (.int 0)]),
    .set (.sub (.attr (.loc 1) "table") (.tup [.attr (.loc 2) "zone",.attr (.loc 2) "reply"])) (.tup [.attr (.loc 2) "number",.con (.int 1)]),
    .set (.sub (.attr (.loc 1) "talks") (.attr (.loc 2) "number")) (.loc 2),
    .set (.attr (.loc 2) "status") (.bin .BitOr (.attr (.loc 2) "status") (.con (.int 8))),
    .ret (.con .none)] [e0,some (.ref (r .book)),some (.ref (r (.talk i))),e3] S kn kr→kr .none S':=by
 refine uN fun Gq kq=>?_
 have hi:=j5 hx
 have hi27:i < 27:=Nat.lt_of_lt_of_le hi L.gb.few
 have hT:=L.talk hx
 have hB:=L.book
 refine xEA (L.at_ .table trivial) fun o1 p1 p2=>?_
 refine xEA (uF p1 p2 (x:=kV (x.zone,x.a)) rfl (by decide) (z8 L.gb.small.1) (vV (i,0))) fun o1' q1 q2=>?_
 have L1:=L.setTable (jcA ..▸q1) (L.gb.addTab hi27 (x.zone,x.a) 0 (Nat.le_trans hs (by decide)))
 have hT1:=L1.talk (i:=i) (x:=x) hx
 have hB1:=L1.book
 refine xEA (L1.at_ .table trivial) fun o2 p3 p4=>?_
 refine xEA (uF p3 p4 (x:=kV (x.zone,x.b)) rfl (by decide) (z8 L1.gb.small.1) (vV (i,1))) fun o2' q3 q4=>?_
 have L2:=L1.setTable (jcA ..▸q3) (L1.gb.addTab hi27 (x.zone,x.b) 1 (Nat.le_trans kO (Nat.le_trans (Nat.succ_le_succ hs) (by decide))))
 have hT2:=L2.talk (i:=i) (x:=x) hx
 have hB2:=L2.book
 refine xEA (L2.at_ .talks trivial) fun o3 p5 p6=>?_
 refine xEA (uF p5 p6 (x:=.int (num i)) rfl (by decide) (kU L.gb.bln) (.ref (r (.talk i)))) fun o3' q5 q6=>?_
 have L3:=L2.setTalks (t:=b.bl++[i]) (jj1 (f:=fun i=>r (.talk i)) hi27 L.gb.b27 hib▸q5) { L2.gb with bl:=fun j hj=>(List.mem_append.1 hj).elim (L.gb.bl j) fun q=>List.mem_singleton.1 q▸hi,blN:=nK L.gb.blN hib }
 have hT3:=L3.talk (i:=i) (x:=x) hx
 have L4:=L3.setTalk (i:=i) (x:=x) hx { x with st:=Builtin.bitOr x.st 8 }
 have hal:∀ y,al (addB b i x) w y ↔ al b w y:=fun y=>by
  induction y using Law.Rl.casesOn<;>first | exact Iff.rfl | exact lt_set
 exact kq ⟨_,L4,(((Mv.set (b1:=b) (w1:=w) .table trivial o1' fun _=>Iff.rfl).trans (Mv.set (b1:=b) (w1:=w) .table trivial o2' fun _=>Iff.rfl)).trans (Mv.set (b1:=b) (w1:=w) .talks trivial o3' fun _=>Iff.rfl)).trans (Mv.set (.talk i) hi _ hal),
  fun H=>H _ (jX hT) _ (zE hB) _ (qH hT) _ (qP hT) _ (q2) _ (jX hT1) _ (zE hB1) _ (qH hT1) _ (x9 hT1) _ (q4) _ (jM hB2) _ (jX hT2) _ (q6) _ (yR hT3) _ (b_or _ 8 _) _ (xP hT3 _)⟩
theorem jdM (S:St) (a z:Int):jO S .NotEq (.int a) (.int z)=some (!decide (a=z)):=rfl
theorem qN (S:St) (v:AV):jO S .IsNot v .none=some (!decide (v = .none)):=congrArg some decide_not
theorem jjQ (r:Rl→Nat) (h:Option (Nat×Int)):decide (hitV r h = .none)=!h.isSome:=by
 induction h using Option.casesOn with
 | none=>rfl
 | some v=>obtain ⟨i,wy⟩:=v;simp [hitV]
theorem not_t {r:Rl→Nat} {h:Option (Nat×Int)} (q:h.isSome=true) (S:St):jO S .IsNot (hitV r h) .none=some true:=by rw [qN,jjQ,q];rfl
theorem jsZ {r:Rl→Nat} {h:Option (Nat×Int)} (q:¬ h.isSome=true) (S:St):jO S .IsNot (hitV r h) .none=some false:=by rw [qN,jjQ,Bool.eq_false_iff.2 q];rfl
theorem jrT (S:St):jO S .IsNot .none .none=some false:=rfl
theorem jpN (xs:List AV) (S:St):jO S .IsNot (.tup xs) .none=some true:=rfl
theorem is_ref (n:Nat) (S:St):jO S .Is (.ref n) .none=some false:=rfl
theorem ne_t {a z:Int} (h:¬ a=z) (S:St):jO S .NotEq (.int a) (.int z)=some true:=by rw [jdM,decide_eq_false h];rfl
theorem ne_f {a z:Int} (h:a=z) (S:St):jO S .NotEq (.int a) (.int z)=some false:=by rw [jdM,decide_eq_true h];rfl
theorem jn3 (L:Lay r c b w S) {i:Nat} {x:R} {now:Int} (hx:b.tks[i]? = some x) (hn:b.scn[i]? = some now) (ht:jlQ b) (ht1:jlQ (kF b x.zone x.a now).1) (hib:Builtin.bitAnd x.st 8=0→i ∉ b.bl) (hs:b.tab.length≤900) (d:Nat) :
  ∃ r' S',Lay r' c (tG b i now).1 w S'∧Mv b w r S (tG b i now).1 w r' S'∧j1 prg (d+4) "confirm" [.ref (r (.scene i))] S=some (jkU (tG b i now).2,S'):=by
 refine ja4 (L.scene hn) fun fs s1 s2 s3 s4 s5=>?_
 have hT:=L.talk hx
 let P:B×Bool→Prop:=fun F=>∃ r' S',Lay r' c F.1 w S'∧Mv b w r S F.1 w r' S'∧j1 prg (d+4) "confirm" [.ref (r (.scene i))] S=some (jkU F.2,S')
 have run:=(jq6 (d+3) S (AV.ref (r (Rl.scene i))) _ (s4) _ (s3) _ (is_ref _ S) _ (yR hT) _ (jpV _ 8 S) :)
 refine Eq.subst (motive:=P) (joJ hx now).symm (uT (fun h8=>?_) fun h8=>⟨r,S,L,Mv.refl,(run _ (ne_t h8 S) :)⟩)
 have hib:=hib h8
 replace run:=(run _ (ne_f h8 S) _ (qP hT) _ (x9 hT) _ (jcU _ _ S) :)
 refine jB (mW L ht x.zone x.a now d) fun r1 S1 L1 M1 e1=>?_
 have f1:=fun env (h:_)=>(blk (j1 prg (d+3)) wR [some (AV.ref (r (Rl.scene i))),some (AV.ref (r Rl.book)),some (AV.ref (r (Rl.talk i))),some (tV x.a)] S _ (qH hT) _ (s5) _ (e1) env h :)
 refine uT (fun hh1=>⟨r1,S1,L1,M1,(run _ (wY rfl (f1 _ (not_t hh1 S1))) :)⟩) fun hh1=>?_
 have hx1:(kF b x.zone x.a now).1.tks[i]? = some x:=(jh4 ht hib ..).trans hx
 have alT:al b w (.talk i):=j5 hx
 have hr1:r1 (.talk i)=r (.talk i):=M1.keep (.talk i) alT trivial
 have hr1b:r1 .book=r .book:=M1.keep .book trivial trivial
 refine ja4 (L1.scene ((congrArg (·[i]?) (jrG ..)).trans hn)) fun fs1 t1 t2 t3 t4 t5=>?_
 have hT1:=L1.talk hx1
 rw [M1.keep (.scene i) (j5 hn) trivial] at t5
 rw [hr1] at hT1
 have hib1:=jm2 hib x.zone x.a now
 refine jB (mW L1 ht1 x.zone x.b now d) fun r2 S2 L2 M2 e2=>?_
 rw [hr1b] at e2
 have f2:=fun env (h:_)=>(blk (j1 prg (d+3)) wR [some (AV.ref (r (Rl.scene i))),some (AV.ref (r Rl.book)),some (AV.ref (r (Rl.talk i))),some (tV x.b)] S1 _ (qH hT1) _ (t5) _ (e2) env h :)
 refine uT (fun hh2=>⟨r2,S2,L2,M1.trans M2,(run _ (jK rfl (f1 _ (jsZ hh1 S1)) rfl (wY rfl (f2 _ (not_t hh2 S2)))) :)⟩) fun hh2=>?_
 refine yJ (js1 L2 ((jh4 ht1 hib1 ..).trans hx1) (jm2 hib1 _ _ _) (Nat.le_trans (jgA ..) (Nat.le_trans (jgA ..) hs)) (j1 prg (d+3)) (e0:=some (.ref (r (.scene i)))) (e3:=some (tV x.b))) fun S3 L3 M3 e3=>⟨r2,S3,L3,(M1.trans M2).trans M3,?_⟩
 rw [(M2.keep .book trivial trivial).trans hr1b,(M2.keep (.talk i) (M1.al_ _ alT) trivial).trans hr1] at e3
 exact e3 (run _ (jK rfl (f1 _ (jsZ hh1 S1)) rfl (jK rfl (f2 _ (jsZ hh2 S2)) rfl rfl)))
end
end Mine.Law
end
section
open PySem
namespace Mine.Law
noncomputable def gH (i:Nat) (p:Nat×Int):Bool:=!decide (p.1=i)
noncomputable def vS (w:W) (i:Nat) (x:R):W:={ rws:=w.rws.set i { x with st:=Int.fmod x.st 512+512 },wl:=w.wl.erase i,fl:=w.fl.filter (yB i),wh:=w.wh.filter (gH i)}
section
variable {r:Rl→Nat} {c:Cs} {b:B} {w:W} {S:St}
theorem k8 {k:Nat} {o:AO} {t u f h:Nat} (h1:S[k]? = some o) (h2:isD 2 (yI t u f h) o):k9 S (.ref k) (.str "talks")=some (.ref t):=(zP h1 h2 rfl (by decide)).trans rfl
theorem zZ {k:Nat} {o:AO} {t u f h:Nat} (h1:S[k]? = some o) (h2:isD 2 (yI t u f h) o):k9 S (.ref k) (.str "rows")=some (.ref u):=(zP h1 h2 rfl (by decide)).trans rfl
theorem xI {k:Nat} {o:AO} {t u f h:Nat} (h1:S[k]? = some o) (h2:isD 2 (yI t u f h) o):k9 S (.ref k) (.str "flows")=some (.ref f):=(zP h1 h2 rfl (by decide)).trans rfl
theorem nF {k:Nat} {o:AO} {t u f h:Nat} (h1:S[k]? = some o) (h2:isD 2 (yI t u f h) o):k9 S (.ref k) (.str "hung")=some (.ref h):=(zP h1 h2 rfl (by decide)).trans rfl
theorem jeY {k:Nat} {o:AO} {t u f h:Nat} (h1:S[k]? = some o) (h2:isD 2 (yI t u f h) o) (a:Nat):∃ o',isD 2 (yI t u a h) o'∧qW S (.ref k) (.str "flows") (.ref a)=some (S.set k o'):=uF h1 h2 (x:=.str "flows") rfl (by decide) (by simp [yI,jC]) (.ref a)
theorem jfS {k:Nat} {o:AO} {t u f h:Nat} (h1:S[k]? = some o) (h2:isD 2 (yI t u f h) o) (a:Nat):∃ o',isD 2 (yI t u f a) o'∧qW S (.ref k) (.str "hung") (.ref a)=some (S.set k o'):=uF h1 h2 (x:=.str "hung") rfl (by decide) (by simp [yI,jC]) (.ref a)
theorem qD {k i:Nat} {x:R} {o:AO} (h1:S[k]? = some o) (h2:isD 2 (m4 i x) o):k9 S (.ref k) (.str "number")=some (.int (num i)):=(zP h1 h2 rfl (by decide)).trans rfl
theorem qX {k i:Nat} {x:R} {o:AO} (h1:S[k]? = some o) (h2:isD 2 (m4 i x) o):k9 S (.ref k) (.str "zone")=some (.int x.zone):=(zP h1 h2 rfl (by decide)).trans rfl
theorem vH {k i:Nat} {x:R} {o:AO} (h1:S[k]? = some o) (h2:isD 2 (m4 i x) o):k9 S (.ref k) (.str "ends")=some (.tup [tV x.a,tV x.b]):=(zP h1 h2 rfl (by decide)).trans rfl
theorem qF {k i:Nat} {x:R} {o:AO} (h1:S[k]? = some o) (h2:isD 2 (m4 i x) o):k9 S (.ref k) (.str "status")=some (.int x.st):=(zP h1 h2 rfl (by decide)).trans rfl
theorem w6 {k i:Nat} {x:R} {o:AO} (h1:S[k]? = some o) (h2:isD 2 (m4 i x) o):k9 S (.ref k) (.str "until")=some (.int x.un):=(zP h1 h2 rfl (by decide)).trans rfl
theorem tM {k i:Nat} {x:R} {o:AO} (h1:S[k]? = some o) (h2:isD 2 (m4 i x) o) (n:Int):∃ o',isD 2 (m4 i { x with st:=n }) o'∧qW S (.ref k) (.str "status") (.int n)=some (S.set k o'):=uF h1 h2 (x:=.str "status") rfl (by decide) (by simp [m4,jC]) (.int n)
theorem Lay.row (L:Lay r c b w S) {i:Nat} {x:R} (hx:w.rws[i]? = some x):∃ o,S[r (.row i)]? = some o∧isD 2 (m4 i x) o:=
 jp3 (L.at_ (.row i) (j5 hx)) fun o h1 y h2 h3=>⟨o,h1,Option.some.inj (h2.symm.trans hx)▸h3⟩
theorem Lay.setRow (L:Lay r c b w S) {i:Nat} {x:R} (hx:w.rws[i]? = some x) (y:R) {o':AO} (ho:isD 2 (m4 i y) o'):Lay r c b { w with rws:=w.rws.set i y } (S.set (r (.row i)) o'):=by
 have hi:=j5 hx
 have hl:(w.rws.set i y).length=w.rws.length:=List.length_set
 refine L.set (.row i) hi ⟨y,List.getElem?_set_self hi,ho⟩ (fun z h=>?_) (fun z o hz h' h=>?_) L.gb { L.gw with wl:=fun j hj=>lt_set.2 (L.gw.wl j hj),few:=Nat.le_trans (Nat.le_of_eq hl) L.gw.few }
 ·induction z using Law.Rl.casesOn<;>first | exact h | exact lt_set.1 h
 ·induction z using Law.Rl.casesOn<;>try exact h
  ·exact h.trans (congrArg (fun n=>AO.list ((List.range n).map fun i=>.ref (r (.row i)))) hl.symm)
  ·exact xEA h fun q h1 h2=>⟨q,(List.getElem?_set_ne fun e=>hz (congrArg Rl.row e.symm)).trans h1,h2⟩
theorem Lay.setWtalks (L:Lay r c b w S) {t:List Nat} {o':AO} (ho:isD 1 (tkE (fun i=>r (.row i)) t) o') (g:GoodW { w with wl:=t }):Lay r c b { w with wl:=t } (S.set (r .wtalks) o'):=
 L.set .wtalks trivial ho (fun x h=>h) (fun x o hx _ h=>by induction x using Law.Rl.casesOn<;>first | exact h | exact absurd rfl hx) L.gb g
theorem GoodW.flSub (g:GoodW w) {t:List Ent} (h:t.Sublist w.fl):GoodW { w with fl:=t }:=
 { g with fl:=fun e he=>g.fl e (h.subset he),flN:=g.flN.sublist (h.map _),small:=⟨Nat.le_trans h.length_le g.small.1,g.small.2⟩}
theorem GoodW.whSub (g:GoodW w) {t:List (Nat×Int)} (h:t.Sublist w.wh):GoodW { w with wh:=t }:=
 { g with wh:=fun e he=>g.wh e (h.subset he),small:=⟨g.small.1,Nat.le_trans h.length_le g.small.2⟩}
theorem Lay.newFlows (L:Lay r c b w S) {t:List Ent} {o1 o':AO} (ho1:isD 4 (flE t) o1) (ho:isD 2 (yI (r .wtalks) (r .wrows) S.length (r .hung)) o') (g:GoodW { w with fl:=t }) :
  Lay (upd r .wflows S.length) c b { w with fl:=t } ((S++[o1]).set (r .world) o'):=
 L.swap .wflows .world trivial (fun q=>Rl.noConfusion q) (fun y hy=>Nat.ne_of_lt (L.lt hy)) (fun k hk=>List.getElem?_append_left hk) (jW _ _) ho ho1 (fun z _ h=>h)
  (fun z o q1 q2 q3 q4=>by induction z using Law.Rl.casesOn<;>first | exact q4 | exact absurd rfl q1 | exact absurd rfl q2) L.gb g
theorem Lay.newHung (L:Lay r c b w S) {t:List (Nat×Int)} {o':AO} (ho:isD 2 (yI (r .wtalks) (r .wrows) (r .wflows) S.length) o') (g:GoodW { w with wh:=t }) :
  Lay (upd r .hung S.length) c b { w with wh:=t } ((S++[AO.list (t.map yM)]).set (r .world) o'):=
 L.swap .hung .world trivial (fun q=>Rl.noConfusion q) (fun y hy=>Nat.ne_of_lt (L.lt hy)) (fun k hk=>List.getElem?_append_left hk) (jW _ _) ho rfl (fun z _ h=>h)
  (fun z o q1 q2 q3 q4=>by induction z using Law.Rl.casesOn<;>first | exact q4 | exact absurd rfl q1 | exact absurd rfl q2) L.gb g
theorem jhO {l:List Ent} (h:(l.map (·.1)).Nodup):(l.map fun e=>kV e.1).Nodup:=by
 have h:((l.map (·.1)).map kV).Nodup:=List.pairwise_map.2 (h.imp fun h q=>h (tS q))
 rw [List.map_map] at h
 exact h
theorem fV_0 (v:Nat×Int) (S:St):k9 S (fV v) (.int 0)=some (.int (num v.1)):=rfl
theorem hV_0 (v:Nat×Int) (S:St):k9 S (yM v) (.int 0)=some (.int (num v.1)):=rfl
theorem juF {l:List Ent} {k:Nat} {o:AO} (h1:S[k]? = some o) (h2:isD 4 (flE l) o) (hN:(l.map (·.1)).Nodup) {e:Ent} (he:e∈l) (X:List AO):k9 (S++X) (.ref k) (kV e.1)=some (fV e.2):=
 (zP ((List.getElem?_append_left (j5 h1)).trans h1) h2 rfl (by decide)).trans ((juU _ _).trans (congrArg _ (zD hN he)))
theorem jsU (a:Int) (S:St):zK .Mod (.int a) (.int 512) S=some (.int (Int.fmod a 512),S):=rfl
theorem jrD (L:Lay r c b w S) {i:Nat} (hi:i < 27) (call:Callee):∃ S',Lay r c b { w with wl:=w.wl.erase i } S'∧Mv b w r S b w r S'∧∀ {a e f h:Option AV} {kn:Ev→St→Prop} {kr:AV→St→Prop},
   qS call (.ifs (.cmp .In (.loc 2) (.sub (.loc 0) (.con (.str "talks")))) [.del (.sub (.loc 0) (.con (.str "talks"))) (.loc 2)] []) [some (.ref (r .world)),a,some (.int (num i)),e,f,h] S kn kr→kn [some (.ref (r .world)),a,some (.int (num i)),e,f,h] S':=by
 refine uN fun Gq kq=>?_
 refine xEA (L.at_ .world trivial) fun ow w1 w2=>?_
 refine xEA (L.at_ .wtalks trivial) fun o hd1 hd2=>?_
 have hb27:=L.gw.w27
 have hg:=gR (f:=fun i=>r (.row i)) hi hb27
 have hin:jO S .In (.int (num i)) (.ref (r .wtalks))=some _:=(in_of hd1 hd2 (x:=.int (num i)) rfl (by decide)).trans (congrArg (fun v:Option AV=>some v.isSome) hg)
 by_cases h:i∈w.wl
 ·rw [if_pos h] at hin hg
  exact xEA (jiH hd1 hd2 (x:=.int (num i)) rfl (by decide) (kU L.gw.wln) (hg▸rfl)) fun o' q1 q2=>kq ⟨S.set (r .wtalks) o',L.setWtalks (jiG hi hb27▸q1) { L.gw with wl:=fun j hj=>L.gw.wl j (List.mem_of_mem_erase hj),wlN:=L.gw.wlN.erase i },Mv.set .wtalks trivial o' fun _=>Iff.rfl,fun H=>H _ (k8 w1 w2) _ (hin) _ (k8 w1 w2) _ (q2)⟩
 ·rw [if_neg h] at hin
  exact kq ⟨S,(List.erase_of_not_mem h).symm▸L,Mv.refl,fun H=>H _ (k8 w1 w2) _ (hin)⟩
theorem jnL (L:Lay r c b w S) {i:Nat} {x:R} (hx:w.rws[i]? = some x) (d:Nat) :
  ∃ r' S',Lay r' c b (vS w i x) S'∧Mv b w r S b (vS w i x) r' S'∧j1 prg (d+1) "_law_out" [.ref (r .world),.ref (r (.row i))] S=some (.none,S'):=by
 have hi:i < 27:=Nat.lt_of_lt_of_le (j5 hx) L.gw.few
 refine uN fun Gq kq=>?_
 refine xEA (L.row hx) fun o1 p1 p2=>?_
 refine xEA (tM p1 p2 (Int.fmod x.st 512+512)) fun o1' q1 q2=>?_
 have L1:=L.setRow hx _ q1
 have M1:Mv b w r S b w r _:=Mv.set (.row i) (j5 hx) o1' fun _=>Iff.rfl
 refine yJ (jrD L1 hi (j1 prg d)) fun S2 L2 M2 e2=>?_
 refine xEA (L2.at_ .world trivial) fun ow2 v1 v2=>?_
 refine xEA (L2.at_ .wflows trivial) fun of f1 f2=>?_
 refine xEA (jmY (S0:=S2) (g:=r .wflows) (n:=4) (L2.lt (x:=.wflows) trivial) (by decide)
  (cond:=fun v S=>n7 (j1 prg d) [.cmp .NotEq (.sub (.sub (.loc 3) (.loc 4)) (.con (.int 0))) (.loc 2)] (Ev.put [some (.ref (r .world)),some (.ref (r (.row i))),some (.int (num i)),some (.ref (r .wflows)),none,none] 4 v) S)
  (put:=fun v S=>(rE (j1 prg d) (.loc 4) (Ev.put [some (.ref (r .world)),some (.ref (r (.row i))),some (.int (num i)),some (.ref (r .wflows)),none,none] 4 v) S).bind fun w=>(rE (j1 prg d) (.sub (.loc 3) (.loc 4)) (Ev.put [some (.ref (r .world)),some (.ref (r (.row i))),some (.int (num i)),some (.ref (r .wflows)),none,none] 4 v) w.2).bind fun u=>jmM S2.length w.1 u.1 u.2)
  (yB i) (fun e=>kV e.1) (fun e=>fV e.2) w.fl [] (.dict 0 [] 0) ⟨0,0,rfl,.inr ⟨rfl,rfl⟩⟩ (jhO L.gw.flN) (fun e _=>rfl)
  (fun e he o=>mS ((exq (j1 prg d) (.cmp .NotEq (.sub (.sub (.loc 3) (.loc 4)) (.con (.int 0))) (.loc 2)) [some (.ref (r .world)),some (.ref (r (.row i))),some (.int (num i)),some (.ref (r .wflows)),some (kV e.1),none] (S2++[o]) _ (juF f1 f2 L.gw.flN he [o]) _ (fV_0 e.2 _) _ (jaG _ (num e.2.1) (num i))).trans
   (congrArg (fun t=>some (AV.bool (!t),S2++[o])) (jcD (L.gw.fl e he) hi))))
  (fun e he o=>bnd rfl (bnd (mpp (juF f1 f2 L.gw.flN he [o]) rfl) rfl))
  (Nat.le_trans L.gw.small.1 (by decide))) fun od k1 k2=>?_
 have hitf:=tZ f1 f2
 have hkeys:(flE w.fl).map (·.1)=w.fl.map fun e=>kV e.1:=List.map_map
 rw [hkeys] at hitf
 have v1':=(List.getElem?_append_left (l₂:=[od]) (j5 v1)).trans v1
 refine xEA (jeY v1' v2 S2.length) fun ow3 u1 u2=>?_
 have L3:=L2.newFlows (t:=w.fl.filter (yB i)) k1 u1 (L2.gw.flSub List.filter_sublist)
 have M3:Mv b w r S2 b w (upd r .wflows S2.length) ((S2++[od]).set (r .world) ow3):=Mv.anew .wflows id (fun _ _=>trivial) (fun _=>Iff.rfl) .world trivial ow3 (fun k hk=>List.getElem?_append_left hk) (le_app _ _) (Nat.le_refl _)
 refine xEA (L3.at_ .world trivial) fun ow4 v3 v4=>?_
 refine xEA (L3.at_ .hung trivial) fun oh g1 g2=>?_
 replace g1:=g1.trans (congrArg some g2)
 generalize hS3:(S2++[od]).set (r .world) ow3=S3 at *
 have hcomp:=wA (S0:=S3) (g:=r .hung) (j5 g1)
  (cond:=fun v S=>n7 (j1 prg d) [.cmp .NotEq (.sub (.loc 5) (.con (.int 0))) (.loc 2)] (Ev.put [some (.ref (r .world)),some (.ref (r (.row i))),some (.int (num i)),some (.ref (r .wflows)),none,none] 5 v) S)
  (put:=fun v S=>(rE (j1 prg d) (.loc 5) (Ev.put [some (.ref (r .world)),some (.ref (r (.row i))),some (.int (num i)),some (.ref (r .wflows)),none,none] 5 v) S).bind fun u=>jbQ S3.length u.1 u.2)
  (gH i) yM yM w.wh []
  (fun p hp acc=>mS ((exq (j1 prg d) (.cmp .NotEq (.sub (.loc 5) (.con (.int 0))) (.loc 2)) [some (.ref (r .world)),some (.ref (r (.row i))),some (.int (num i)),some (.ref (r .wflows)),none,some (yM p)] (S3++[AO.list acc]) _ (hV_0 p _) _ (jaG _ (num p.1) (num i))).trans
   (congrArg (fun t=>some (AV.bool (!t),S3++[AO.list acc])) (jcD (L.gw.wh p hp) hi))))
  (fun p _ acc=>rfl)
  (Nat.le_trans L.gw.small.2 (by decide))
 have hith:=y9 g1
 have v3':=(List.getElem?_append_left (l₂:=[AO.list ((w.wh.filter (gH i)).map yM)]) (j5 v3)).trans v3
 refine xEA (jfS v3' v4 S3.length) fun ow5 u3 u4=>?_
 have L4:=L3.newHung (t:=w.wh.filter (gH i)) u3 (L3.gw.whSub List.filter_sublist)
 have hal4:∀ y,al b (vS w i x) y ↔ al b w y:=fun y=>by
  induction y using Law.Rl.casesOn<;>first | exact Iff.rfl | exact lt_set
 have M4:Mv b w (upd r .wflows S2.length) S3 b (vS w i x) _ _:=Mv.anew (S':=S3++[AO.list ((w.wh.filter (gH i)).map yM)]) .hung id (fun _ _=>trivial) hal4 .world trivial ow5 (fun k hk=>List.getElem?_append_left hk) (le_app _ _) (Nat.le_refl _)
 have as:∀ {w1 w2:W} {S S':St},Mv b w1 r S b w2 r S'→(∀ y,al b w y ↔ al b w1 y)→(∀ y,al b w y ↔ al b w2 y)→Mv b w r S b w r S':=fun M h h'=>M.as h h'
 have hal1:∀ y,al b w y ↔ al b { w with rws:=w.rws.set i { x with st:=Int.fmod x.st 512+512 }} y:=fun y=>by
  induction y using Law.Rl.casesOn<;>first | exact Iff.rfl | exact lt_set.symm
 refine kq ⟨_,_,L4,((M1.trans (as M2 hal1 hal1)).trans M3).trans M4,?_⟩
 exact e2 (jqV d S (AV.ref (r Rl.world)) (AV.ref (r (Rl.row i))) _ (qD p1 p2) _ (qF p1 p2) _ (jsU x.st _) _ (uB _ 512 _) _ (q2)) _ (xI v1 v2) _ (hitf) _ (kA rfl) _ (k2) _ (u2) _ (nF v3 v4) _ (hith) _ (kA rfl) _ (hcomp) _ (u4)
end
end Mine.Law
end
section
open PySem
namespace Mine.Law
noncomputable def tP (rws:List R):List Nat→List Ent→List Ent
 | [],acc=>acc
 | i::l,acc=>tP rws l (match rws[i]? with
  | none=>acc
  | some x=>jA (x.zone,x.b) (i,1) (jA (x.zone,x.a) (i,0) acc))
noncomputable def xK (w:W):List Ent:=tP w.rws w.wl []
theorem jgJ (rws:List R):∀ (l:List Nat) (acc:List Ent) e,e∈tP rws l acc→e∈acc∨e.2.1∈l
 | [],acc,e,h=>.inl h
 | i::l,acc,e,h=>by
  refine (jgJ rws l _ e h).elim (fun q=>?_) fun q=>.inr (List.mem_cons_of_mem _ q)
  cases hx:rws[i]? with
  | none=>rw [hx] at q;exact .inl q
  | some x=>
   rw [hx] at q
   exact (z0 q).elim (fun q=>.inr (q▸List.mem_cons_self)) fun q=>(z0 q).elim (fun q=>.inr (q▸List.mem_cons_self)) .inl
theorem jh1 {w:W} {e:Ent} (h:e∈xK w):e.2.1∈w.wl:=(jgJ _ _ _ _ h).elim (fun q=>nomatch q) id
noncomputable def yY (w:W) (z:Int) (t:T6) (now:Int):W×Option (Nat×Int):=match j6 (z,t) (xK w) with
 | none=>(w,none)
 | some (i,wy)=>match w.rws[i]? with
  | none=>(w,none)
  | some x=>if x.un≤now then (vS w i x,none) else (w,some (i,wy))
noncomputable def addW (w:W) (i:Nat) (x:R):W:={ w with rws:=w.rws.set i { x with st:=x.st+8 },wl:=w.wl++[i]}
noncomputable def jdT (w:W) (i:Nat) (now:Int) (x:R):W×Bool:=if Int.fmod (Int.fdiv x.st 8) 2=1 then (w,false) else
  if (yY w x.zone x.a now).2.isSome=true then ((yY w x.zone x.a now).1,true) else
  if (yY (yY w x.zone x.a now).1 x.zone x.b now).2.isSome=true then ((yY (yY w x.zone x.a now).1 x.zone x.b now).1,true) else
  (addW (yY (yY w x.zone x.a now).1 x.zone x.b now).1 i x,false)
noncomputable def vX (w:W) (i:Nat) (now:Int):W×Bool:=match w.rws[i]? with
 | none=>(w,false)
 | some x=>jdT w i now x
theorem jlU {w:W} {i:Nat} {x:R} (hx:w.rws[i]? = some x) (now:Int):vX w i now=jdT w i now x:=by delta vX;rw [hx]
theorem wV {w:W} {P:W×Option (Nat×Int)→Prop} {z:Int} {t:T6} {now:Int} (h0:j6 (z,t) (xK w)=none→P (w,none)) (h1:∀ v,j6 (z,t) (xK w)=some v→w.rws[v.1]? = none→P (w,none))
  (h2:∀ v x,j6 (z,t) (xK w)=some v→w.rws[v.1]? = some x→x.un≤now→P (vS w v.1 x,none)) (h3:∀ v x,j6 (z,t) (xK w)=some v→w.rws[v.1]? = some x→¬ x.un≤now→P (w,some v)):P (yY w z t now):=by
 delta yY
 cases hv:j6 (z,t) (xK w) with
 | none=>exact h0 hv
 | some v=>
  show P (match w.rws[v.1]? with | none=>(w,none) | some x=>if x.un≤now then (vS w v.1 x,none) else (w,some (v.1,v.2)))
  cases hx:w.rws[v.1]? with
  | none=>exact h1 v hv hx
  | some x=>exact uT (h2 v x hv hx) (h3 v x hv hx)
noncomputable def xZ:Option (Nat×Int)→AV
 | none=>.none
 | some v=>vV v
section
variable {r:Rl→Nat} {c:Cs} {b:B} {w:W} {S:St}
theorem Lay.world (L:Lay r c b w S):∃ o,S[r .world]? = some o∧isD 2 (yI (r .wtalks) (r .wrows) (r .wflows) (r .hung)) o:=L.at_ .world trivial
theorem Lay.sub_wtalks (L:Lay r c b w S) {i:Nat} (hi:i∈w.wl):k9 S (.ref (r .wtalks)) (.int (num i))=some (.ref (r (.row i))):=by
 exact xEA (L.at_ .wtalks trivial) fun o hd1 hd2=>(zP hd1 hd2 (x:=.int (num i)) rfl (by decide)).trans ((gR (L.gw.w27 i hi) L.gw.w27).trans (if_pos hi))
theorem jgU (L:Lay r c b w S) (call:Callee) (g:Nat) (hg:g < S.length):∀ (l:List Nat) (acc:List Ent) (o:AO) (e2 e3 e4:Option AV),isD 4 (jeW acc) o→(∀ i∈l,i∈w.wl)→acc.length+2*l.length≤900→
  ∃ o' e2' e3' e4',isD 4 (jeW (tP w.rws l acc)) o'∧loop (fun e S=>rB call w5 e S) (.loc 2) (some g) (l.map fun i=>.int (num i)) [some (.ref (r .world)),some (.ref S.length),e2,e3,e4] (S++[o])=some (.nx [some (.ref (r .world)),some (.ref S.length),e2',e3',e4'] (S++[o']))
 | [],acc,o,e2,e3,e4,ho,_,_=>⟨o,e2,e3,e4,ho,rfl⟩
 | i::l,acc,o,e2,e3,e4,ho,hl,hlen=>by
  refine uN fun Gq kq=>?_
  have hiw:=hl i List.mem_cons_self
  refine xE (⟨_,List.getElem?_eq_getElem (L.gw.wl i hiw)⟩:∃ x,w.rws[i]? = some x) fun x hx=>?_
  have hl0:acc.length≤900:=Nat.le_trans (Nat.le_add_right _ _) hlen
  refine xEA (uF (jW S o) ho (x:=kV (x.zone,x.a)) rfl (by decide) (z8 (Nat.le_trans hl0 (by decide))) (vV (i,0))) fun o1 q1 q2=>?_
  rw [jcA] at q1
  replace q2:=q2.trans (congrArg some (gY S o o1))
  have hl1:=kO (k:=(x.zone,x.a)) (v:=(i,(0:Int))) (l:=acc)
  refine xEA (uF (jW S o1) q1 (x:=kV (x.zone,x.b)) rfl (by decide) (z8 (Nat.le_trans hl1 (Nat.le_trans (Nat.succ_le_succ hl0) (by decide)))) (vV (i,1))) fun o2 q3 q4=>?_
  replace q4:=q4.trans (congrArg some (gY S o1 o2))
  have hl2:=kO (k:=(x.zone,x.b)) (v:=(i,(1:Int))) (l:=jA (x.zone,x.a) (i,(0:Int)) acc)
  have hs:tP w.rws (i::l) acc=tP w.rws l (jA (x.zone,x.b) (i,1) (jA (x.zone,x.a) (i,0) acc)):=by
   show tP w.rws l (match w.rws[i]? with | none=>acc | some x=>jA (x.zone,x.b) (i,1) (jA (x.zone,x.a) (i,0) acc))=_
   rw [hx]
  refine jt5 (jgU L call g hg l _ o2 (some (.int (num i))) (some (.ref (r (.row i)))) (some (.int 1)) (jcA ..▸q3) (fun j hj=>hl j (List.mem_cons_of_mem _ hj)) (Nat.le_trans (Nat.add_le_add_right (Nat.le_trans hl2 (Nat.succ_le_succ hl1)) _) (Nat.le_trans (Nat.le_of_eq (by rw [List.length_cons];exact (Nat.add_assoc _ 2 _).trans (congrArg _ (Nat.add_comm 2 _)))) hlen))) fun o' e2' e3' e4' r1 r2=>kq ⟨o',e2',e3',e4',hs▸r1,?_⟩
  refine xEA (L.app [o]).world fun p p1 p2=>?_
  refine xEA ((L.app [o]).row hx) fun p' a1 a2=>?_
  refine xEA ((L.app [o1]).row hx) fun p'' a3 a4=>?_
  have s0:∀ S,k9 S (.tup [tV x.a,tV x.b]) (.int 0)=some (tV x.a):=fun _=>rfl
  have s1:∀ S,k9 S (.tup [tV x.a,tV x.b]) (.int 1)=some (tV x.b):=fun _=>rfl
  have b0:=blk call vZ [some (AV.ref (r Rl.world)),some (AV.ref (List.length S)),some (AV.int (num i)),some (AV.ref (r (Rl.row i))),some (AV.int 0)] (S++[o]) _ (qX a1 a2) _ (vH a1 a2) _ (s0 _) _ (q2)
  have b1:=blk call vZ [some (AV.ref (r Rl.world)),some (AV.ref (List.length S)),some (AV.int (num i)),some (AV.ref (r (Rl.row i))),some (AV.int 1)] (S++[o1]) _ (qX a3 a4) _ (vH a3 a4) _ (s1 _) _ (q4)
  refine jK rfl ?_ (wF hg _ _) r2
  exact blk call w5 (Ev.put [some (AV.ref (r Rl.world)),some (AV.ref (List.length S)),e2,e3,e4] 2 ((fun i=>AV.int (num i)) i)) (S++[o]) _ (k8 p1 p2) _ ((L.app [o]).sub_wtalks hiw) _ (jcU _ _ _) _ (jK rfl b0 rfl (jK rfl b1 rfl rfl))
theorem xJ (o:AO) (vs:List AV) (d:AO) (h:kT (pairUp vs) 0 [] 0=some d):jlF S.length (S++[o]) (vs,S++[o])=some (.ref S.length,S++[d]):=(if_pos (decide_eq_true rfl)).trans (bnd h (congrArg (fun T=>some (AV.ref S.length,T)) (gY _ _ _)))
theorem jpG (L:Lay r c b w S) (d:Nat):∃ o,isD 4 (jeW (xK w)) o∧j1 prg (d+1) "_law_ends" [.ref (r .world)] S=some (.ref S.length,S++[o]):=by
 refine uN fun Gq kq=>?_
 refine xEA (L.app [.dict 0 [] 0]).world fun ow w1 w2=>?_
 refine xEA ((L.app [.dict 0 [] 0]).at_ .wtalks trivial) fun ot t1 t2=>?_
 refine jt5 (jgU L (j1 prg d) (r .wtalks) (L.lt (x:=.wtalks) trivial) w.wl [] (.dict 0 [] 0) none none none ⟨0,0,rfl,.inr ⟨rfl,rfl⟩⟩ (fun _ h=>h) (Nat.le_trans (Nat.le_of_eq (Nat.zero_add _)) (Nat.le_trans (Nat.mul_le_mul_left 2 L.gw.wln) (by decide)))) fun o' e2' e3' e4' r1 r2=>kq ⟨o',r1,?_⟩
 have hit:itemsOf (S++[AO.dict 0 [] 0]) (.ref (r .wtalks))=some (w.wl.map fun i=>.int (num i),some (r .wtalks)):=(tZ t1 t2).trans (congrArg (fun l=>some (l,some (r .wtalks))) List.map_map)
 exact joT d S (AV.ref (r Rl.world)) _ (xJ (S:=S) (.dict 0 [] 0) [] _ rfl) _ (k8 w1 w2) _ (hit) _ (r2)
theorem jhQ (L:Lay r c b w S) (z:Int) (t:T6) (now:Int) (d:Nat) :
  ∃ r' S',Lay r' c b (yY w z t now).1 S'∧Mv b w r S b (yY w z t now).1 r' S'∧j1 prg (d+2) "_law_find" [.ref (r .world),.int z,tV t,.int now] S=some (xZ (yY w z t now).2,S'):=by
 refine xEA (jpG L d) fun o o1 o2=>?_
 have L1:=L.app [o]
 have M1:=Mv.app (b:=b) (w:=w) (r:=r) (S:=S) [o]
 refine xEA L1.world fun ow w1 w2=>?_
 have hg:uJ "get" (.ref S.length) [.tup [.int z,tV t]] (S++[o])=some (((j6 (z,t) (xK w)).map vV).getD .none,S++[o]):=
  (jeZ (jW S o) o1 (x:=kV (z,t)) rfl (by decide)).trans (congrArg (fun v:Option AV=>some (v.getD .none,S++[o])) (jcB _ _))
 have run:=(jnA (d+1) S (AV.ref (r Rl.world)) (AV.int z) (tV t) (AV.int now) _ (o2) _ (kA (vL (jW S o) o1)) _ (hg) :)
 have live:∀ v,j6 (z,t) (xK w)=some v→v.1∈w.wl:=fun v hv=>jh1 (yQ hv)
 refine wV (P:=fun F=>∃ r' S',Lay r' c b F.1 S'∧Mv b w r S b F.1 r' S'∧j1 prg (d+2) "_law_find" [.ref (r .world),.int z,tV t,.int now] S=some (xZ F.2,S')) (fun hv=>?_) (fun v hv hx=>?_) (fun v x hv hx hu=>?_) fun v x hv hx hu=>?_
 ·rw [hv] at run
  exact ⟨r,S++[o],L1,M1,(run _ (jrT _) :)⟩
 ·exact absurd (L.gw.wl v.1 (live v hv)) (Nat.not_lt.2 (List.getElem?_eq_none_iff.1 hx))
 ·rw [hv] at run
  exact xEA (L1.row hx) fun ox x1 x2=>jB (jnL L1 hx d) fun r' S' L' M' e'=>⟨r',S',L',M1.trans M',(run _ (jpN _ _) _ (k8 w1 w2) _ (v_0 v _) _ (L1.sub_wtalks (live v hv)) _ (w6 x1 x2) _ (le_t hu _) _ (k8 w1 w2) _ (v_0 v _) _ (L1.sub_wtalks (live v hv)) _ (e') :)⟩
 ·rw [hv] at run
  exact xEA (L1.row hx) fun ox x1 x2=>⟨r,S++[o],L1,M1,(run _ (jpN _ _) _ (k8 w1 w2) _ (v_0 v _) _ (L1.sub_wtalks (live v hv)) _ (w6 x1 x2) _ (le_f hu _) :)⟩
end
end Mine.Law
end
section
open PySem
namespace Mine.Law
theorem uQ {w:W} {j:Nat} (hj:j ∉ w.wl) (z:Int) (t:T6) (now:Int):(yY w z t now).1.rws[j]? = w.rws[j]?:=
 wV (P:=fun F=>F.1.rws[j]? = w.rws[j]?) (fun _=>rfl) (fun _ _ _=>rfl) (fun v x hv _ _=>List.getElem?_set_ne fun e:v.1=j=>hj (e▸jh1 (yQ hv))) fun _ _ _ _ _=>rfl
theorem w9 {w:W} {j:Nat} (hj:j ∉ w.wl) (z:Int) (t:T6) (now:Int):j ∉ (yY w z t now).1.wl:=
 wV (P:=fun F=>j ∉ F.1.wl) (fun _=>hj) (fun _ _ _=>hj) (fun _ _ _ _ _ h=>hj (List.mem_of_mem_erase h)) fun _ _ _ _ _=>hj
section
variable {r:Rl→Nat} {c:Cs} {b:B} {w:W} {S:St}
theorem jqB (L:Lay r c b w S) {i:Nat} {x:R} (hx:w.rws[i]? = some x) (hib:i ∉ w.wl) (call:Callee) {e2 e3:Option AV} :
  ∃ S',Lay r c b (addW w i x) S'∧Mv b w r S b (addW w i x) r S'∧∀ {kn:Ev→St→Prop} {kr:AV→St→Prop},
   qB call [.set (.sub (.sub (.loc 0) (.con (.str "talks"))) (.sub (.loc 1) (.con (.str "number")))) (.loc 1),
    .set (.sub (.loc 1) (.con (.str "status"))) (.bin .Add (.sub (.loc 1) (.con (.str "status"))) (.con (.int 8))),
    .ret (.con .none)] [some (.ref (r .world)),some (.ref (r (.row i))),e2,e3] S kn kr→kr .none S':=by
 refine uN fun Gq kq=>?_
 have hi:=j5 hx
 have hi27:i < 27:=Nat.lt_of_lt_of_le hi L.gw.few
 refine xEA L.world fun ow w1 w2=>?_
 refine xEA (L.row hx) fun ox x1 x2=>?_
 refine xEA (L.at_ .wtalks trivial) fun o p5 p6=>?_
 have hb27:=L.gw.w27
 refine xEA (uF p5 p6 (x:=.int (num i)) rfl (by decide) (kU L.gw.wln) (.ref (r (.row i)))) fun o3' q5 q6=>?_
 refine kq ?_
 have L3:=L.setWtalks (t:=w.wl++[i]) (jj1 (f:=fun i=>r (.row i)) hi27 hb27 hib▸q5) { L.gw with wl:=fun j hj=>(List.mem_append.1 hj).elim (L.gw.wl j) fun q=>List.mem_singleton.1 q▸hi,wlN:=nK L.gw.wlN hib }
 refine xEA (L3.row (i:=i) (x:=x) hx) fun oy y1 y2=>?_
 refine xEA (tM y1 y2 (x.st+8)) fun oz z1 z2=>?_
 have L4:=L3.setRow (i:=i) (x:=x) hx { x with st:=x.st+8 } z1
 have hal:∀ y,al b (addW w i x) y ↔ al b w y:=fun y=>by
  induction y using Law.Rl.casesOn<;>first | exact Iff.rfl | exact lt_set
 refine ⟨_,L4,?_,fun {kn kr} H=>?_⟩
 ·have M1:Mv b w r S b w r _:=Mv.set .wtalks trivial o3' (fun _=>Iff.rfl)
  exact M1.trans (Mv.set (.row i) hi _ hal)
 ·exact H _ (k8 w1 w2) _ (qD x1 x2) _ (q6) _ (qF y1 y2) _ (uB _ 8 _) _ (z2)
theorem jdO (h:Option (Nat×Int)):decide (xZ h = .none)=!h.isSome:=by
 induction h using Option.casesOn with
 | none=>rfl
 | some v=>exact decide_eq_false fun q=>nomatch q
theorem jpP {h:Option (Nat×Int)} (q:h.isSome=true) (S:St):jO S .IsNot (xZ h) .none=some true:=by rw [qN,jdO,q];rfl
theorem jiO {h:Option (Nat×Int)} (q:¬ h.isSome=true) (S:St):jO S .IsNot (xZ h) .none=some false:=by rw [qN,jdO,Bool.eq_false_iff.2 q];rfl
theorem b_mod {z:Int} (h:¬ z=0) (a:Int) (S:St):zK .Mod (.int a) (.int z) S=some (.int (Int.fmod a z),S):=by show (if z=0 then none else some (Int.fmod a z)).map _=_;rw [if_neg h];rfl
theorem jsF {z:Int} (h:¬ (z=0∨2^64≤z.natAbs)) (a:Int) (S:St):zK .FloorDiv (.int a) (.int z) S=some (.int (Int.fdiv a z),S):=by show (if z=0∨2^64≤z.natAbs then none else some (Int.fdiv a z)).map _=_;rw [if_neg h];rfl
theorem jqR (L:Lay r c b w S) {i:Nat} {x:R} {now:Int} (hx:w.rws[i]? = some x) (hib:¬ Int.fmod (Int.fdiv x.st 8) 2=1→i ∉ w.wl) (d:Nat) :
  ∃ r' S',Lay r' c b (vX w i now).1 S'∧Mv b w r S b (vX w i now).1 r' S'∧j1 prg (d+3) "_law_enter" [.ref (r .world),.ref (r (.row i)),.int now] S=some (jkU (vX w i now).2,S'):=by
 refine xEA (L.row hx) fun ox x1 x2=>?_
 have n8:¬ ((8:Int)=0∨2^64≤(8:Int).natAbs):=by decide
 have n2:¬ ((2:Int)=0):=by decide
 let P:W×Bool→Prop:=fun F=>∃ r' S',Lay r' c b F.1 S'∧Mv b w r S b F.1 r' S'∧j1 prg (d+3) "_law_enter" [.ref (r .world),.ref (r (.row i)),.int now] S=some (jkU F.2,S')
 have run:=(jjZ (d+2) S (AV.ref (r Rl.world)) (AV.ref (r (Rl.row i))) (AV.int now) _ (qF x1 x2) _ (jsF n8 _ S) _ (b_mod n2 _ S) :)
 refine Eq.subst (motive:=P) (jlU hx now).symm (uT (fun h8=>⟨r,S,L,Mv.refl,(run _ (yD h8 S) :)⟩) fun h8=>?_)
 have hib:=hib h8
 replace run:=(run _ (kD h8 S) _ (vH x1 x2) _ (jcU _ _ S) :)
 refine jB (jhQ L x.zone x.a now d) fun r1 S1 L1 M1 e1=>?_
 have f1:=fun env (h:_)=>(blk (j1 prg (d+2)) uS [some (AV.ref (r Rl.world)),some (AV.ref (r (Rl.row i))),some (AV.int now),some (tV x.a)] S _ (qX x1 x2) _ (e1) env h :)
 refine uT (fun hh1=>⟨r1,S1,L1,M1,(run _ (wY rfl (f1 _ (jpP hh1 S1))) :)⟩) fun hh1=>?_
 have hx1:(yY w x.zone x.a now).1.rws[i]? = some x:=(uQ hib ..).trans hx
 have alT:al b w (.row i):=j5 hx
 have hr1:r1 (.row i)=r (.row i):=M1.keep (.row i) alT trivial
 have hr1b:r1 .world=r .world:=M1.keep .world trivial trivial
 refine xEA (L1.row hx1) fun oy y1 y2=>?_
 rw [hr1] at y1
 have hib1:=w9 hib x.zone x.a now
 refine jB (jhQ L1 x.zone x.b now d) fun r2 S2 L2 M2 e2=>?_
 rw [hr1b] at e2
 have f2:=fun env (h:_)=>(blk (j1 prg (d+2)) uS [some (AV.ref (r Rl.world)),some (AV.ref (r (Rl.row i))),some (AV.int now),some (tV x.b)] S1 _ (qX y1 y2) _ (e2) env h :)
 refine uT (fun hh2=>⟨r2,S2,L2,M1.trans M2,(run _ (jK rfl (f1 _ (jiO hh1 S1)) rfl (wY rfl (f2 _ (jpP hh2 S2)))) :)⟩) fun hh2=>?_
 refine yJ (jqB L2 ((uQ hib1 ..).trans hx1) (w9 hib1 _ _ _) (j1 prg (d+2)) (e2:=some (.int now)) (e3:=some (tV x.b))) fun S3 L3 M3 e3=>⟨r2,S3,L3,(M1.trans M2).trans M3,?_⟩
 rw [(M2.keep .world trivial trivial).trans hr1b,(M2.keep (.row i) (M1.al_ _ alT) trivial).trans hr1] at e3
 exact e3 (run _ (jK rfl (f1 _ (jiO hh1 S1)) rfl (jK rfl (f2 _ (jiO hh2 S2)) rfl rfl)))
end
end Mine.Law
end
section
open PySem
namespace Mine.Law
noncomputable def jlD (w:W) (now:Int) (i:Nat):Bool:=decide (i∈w.wl)&&(match w.rws[i]? with
 | some x=>decide (x.un≤now)
 | none=>false)
noncomputable def jfN (w:W) (now:Int):List Nat:=(List.range w.rws.length).filter (jlD w now)
noncomputable def outI (w:W) (i:Nat):W:=match w.rws[i]? with
 | none=>w
 | some x=>vS w i x
noncomputable def kB (w:W) (now:Int):W×Int:=((jfN w now).foldl outI w,((jfN w now).length:Int))
noncomputable def wB (w:W) (i:Nat):Bool:=match w.rws[i]? with
 | some x=>decide (Int.fmod (Int.fdiv x.st 4) 2=0)
 | none=>false
noncomputable def minI (i:Nat) (l:List Nat):Nat:=l.foldl (fun m j=>if num j < num m then j else m) i
theorem mD (i:Nat):∀ l,minI i l=i∨minI i l∈l
 | []=>.inl rfl
 | j::l=>by
  show minI (if num j < num i then j else i) l=i∨_
  by_cases h:num j < num i
  ·rw [if_pos h]
   rcases mD j l with q | q
   ·right
    show minI (if num j < num i then j else i) l∈j::l
    rw [if_pos h,q];exact List.mem_cons_self
   ·right
    show minI (if num j < num i then j else i) l∈j::l
    rw [if_pos h];exact List.mem_cons_of_mem _ q
  ·rw [if_neg h]
   rcases mD i l with q | q
   ·exact .inl q
   ·right
    show minI (if num j < num i then j else i) l∈j::l
    rw [if_neg h];exact List.mem_cons_of_mem _ q
theorem min_map (i:Nat):∀ l:List Nat,(l.map num).foldl (fun m y=>if y < m then y else m) (num i)=num (minI i l)
 | []=>rfl
 | j::l=>by
  show (l.map num).foldl (fun m y=>if y < m then y else m) (if num j < num i then num j else num i)=num (minI (if num j < num i then j else i) l)
  by_cases h:num j < num i
  ·rw [if_pos h,if_pos h];exact min_map j l
  ·rw [if_neg h,if_neg h];exact min_map i l
noncomputable def jbJ (w:W) (now:Int):W×Bool:=if (kB w now).2 > 0 then ((kB w now).1,true) else
 match (kB w now).1.wl.filter (wB (kB w now).1) with
 | []=>((kB w now).1,false)
 | i::l=>(outI (kB w now).1 (minI i l),true)
theorem qA {w:W} {i:Nat} {x:R} (hx:w.rws[i]? = some x):outI w i=vS w i x:=by delta outI;rw [hx]
theorem jkE (w:W) (i:Nat):(outI w i).rws.length=w.rws.length:=by
 delta outI
 cases w.rws[i]? with
 | none=>rfl
 | some x=>exact List.length_set
theorem jo3 {w:W} {i:Nat} {x:R} (hx:w.rws[i]? = some x) (now:Int):jlD w now i=(decide (i∈w.wl)&&decide (x.un≤now)):=by delta jlD;rw [hx]
theorem jo7 {w:W} {i:Nat} {x:R} (hx:w.rws[i]? = some x):wB w i=decide (Int.fmod (Int.fdiv x.st 4) 2=0):=by delta wB;rw [hx]
theorem jvS {call:Callee} {e f:IE} {env:Ev} {S:St} {x y:Bool} (h1:rE call e env S=some (.bool x,S)) (h2:rE call f env S=some (.bool y,S)):rE call (.bool .And [e,f]) env S=some (.bool (x&&y),S):=bnd h1 (match x with
 | true=>bnd h2 rfl
 | false=>rfl)
section
variable {r:Rl→Nat} {c:Cs} {b:B} {w:W} {S:St}
theorem joY (L:Lay r c b w S) {i:Nat} (hi:i < w.rws.length) (d:Nat) :
  ∃ r' S',Lay r' c b (outI w i) S'∧Mv b w r S b (outI w i) r' S'∧j1 prg (d+1) "_law_out" [.ref (r .world),.ref (r (.row i))] S=some (.none,S'):=qA (List.getElem?_eq_getElem hi)▸jnL L (List.getElem?_eq_getElem hi) d
theorem jb7 (d:Nat) (g:Nat) (now:AV) (r0:Rl→Nat):∀ (l:List Nat) (r:Rl→Nat) (w:W) (S:St) (e2:Option AV) (e3:Option AV),Lay r c b w S→(∀ i∈l,i < w.rws.length)→r .world=r0 .world→(∀ i∈l,r (.row i)=r0 (.row i))→(∀ y,al b w y→r y≠g)→g < S.length→
  ∃ r' S' e3',Lay r' c b (l.foldl outI w) S'∧Mv b w r S b (l.foldl outI w) r' S'∧loop (fun e S=>rB (j1 prg (d+1)) uU e S) (.loc 3) (some g) (l.map fun i=>.ref (r0 (.row i))) [some (.ref (r0 .world)),some now,e2,e3] S=some (.nx [some (.ref (r0 .world)),some now,e2,e3'] S')
 | [],r,w,S,e2,e3,L,_,_,_,_,_=>⟨r,S,e3,L,Mv.refl,rfl⟩
 | i::l,r,w,S,e2,e3,L,hl,hrw,hr,hg,hgS=>by
  refine uN fun Gq kq=>?_
  refine jB (joY L (hl i List.mem_cons_self) d) fun r1 S1 L1 M1 e1=>?_
  have hg1:∀ y,al b (outI w i) y→r1 y≠g:=fun y hy=>(M1.new y hy).elim (fun q=>q.2▸hg y q.1) fun q e=>Nat.not_lt.2 q (e▸hgS)
  refine vQ (jb7 d g now r0 l r1 (outI w i) S1 e2 (some (.ref (r0 (.row i)))) L1 (fun j hj=>(jkE w i).symm▸hl j (List.mem_cons_of_mem _ hj)) ((M1.keep .world trivial trivial).trans hrw) (fun j hj=>(M1.keep (.row j) (hl j (List.mem_cons_of_mem _ hj)) trivial).trans (hr j (List.mem_cons_of_mem _ hj))) hg1 (Nat.lt_of_lt_of_le hgS M1.len)) fun r' S' e3' L' M' e'=>kq ⟨r',S',e3',L',M1.trans M',?_⟩
  rw [hrw,hr i List.mem_cons_self] at e1
  refine jK rfl ?_ (decide_eq_true (M1.fr g hgS hg)) e'
  exact blk (j1 prg (d+1)) uU (Ev.put [some (AV.ref (r0 Rl.world)),some now,e2,e3] 3 ((fun i=>AV.ref (r0 (Rl.row i))) i)) S _ (e1)
theorem Lay.rows (L:Lay r c b w S):S[r .wrows]? = some (.list ((List.range w.rws.length).map fun i=>.ref (r (.row i)))):=xEA (L.at_ .wrows trivial) fun o h1 h2=>h1.trans (congrArg some h2)
theorem Lay.in_wtalks (L:Lay r c b w S) {i:Nat} (hi:i < 27):jO S .In (.int (num i)) (.ref (r .wtalks))=some (decide (i∈w.wl)):=
 xEA (L.at_ .wtalks trivial) fun o hd1 hd2=>(in_of hd1 hd2 (x:=.int (num i)) rfl (by decide)).trans (congrArg some ((congrArg Option.isSome (gR hi L.gw.w27)).trans (by by_cases h:i∈w.wl<;>simp [h])))
theorem jaM (L:Lay r c b w S) (now:Int) (d:Nat) :
  ∃ r' S',Lay r' c b (kB w now).1 S'∧Mv b w r S b (kB w now).1 r' S'∧j1 prg (d+2) "_law_sweep" [.ref (r .world),.int now] S=some (.int (kB w now).2,S'):=by
 refine uN fun Gq kq=>?_
 refine xEA L.world fun ow w1 w2=>?_
 have hcomp:=wA (S0:=S) (g:=r .wrows) (L.lt trivial)
  (cond:=fun v S=>n7 (j1 prg (d+1)) [.bool .And [.cmp .In (.sub (.loc 3) (.con (.str "number"))) (.sub (.loc 0) (.con (.str "talks"))),.cmp .LtE (.sub (.loc 3) (.con (.str "until"))) (.loc 1)]] (Ev.put [some (.ref (r .world)),some (.int now),none,none] 3 v) S)
  (put:=fun v S'=>(rE (j1 prg (d+1)) (.loc 3) (Ev.put [some (.ref (r .world)),some (.int now),none,none] 3 v) S').bind fun u=>jbQ S.length u.1 u.2) (jlD w now) (fun i=>.ref (r (.row i))) (fun i=>.ref (r (.row i))) (List.range w.rws.length) []
  (fun i hi acc=>by
   have hi:=List.mem_range.1 hi
   have L':=L.app [AO.list acc]
   refine xEA (L'.row (List.getElem?_eq_getElem hi)) fun oy y1 y2=>?_
   refine xEA L'.world fun oz z1 z2=>?_
   refine mS ((jvS (exq (j1 prg (d+1)) (.cmp .In (.sub (.loc 3) (.con (.str "number"))) (.sub (.loc 0) (.con (.str "talks")))) [some (.ref (r .world)),some (.int now),none,some (.ref (r (.row i)))] (S++[.list acc]) _ (qD y1 y2) _ (k8 z1 z2) _ (L'.in_wtalks (Nat.lt_of_lt_of_le hi L.gw.few)))
    (exq (j1 prg (d+1)) (.cmp .LtE (.sub (.loc 3) (.con (.str "until"))) (.loc 1)) [some (.ref (r .world)),some (.int now),none,some (.ref (r (.row i)))] (S++[.list acc]) _ (w6 y1 y2) _ (jqX _ _ now))).trans
    (congrArg (fun t=>some (AV.bool t,S++[AO.list acc])) (jo3 (List.getElem?_eq_getElem hi) now).symm)))
  (fun i _ acc=>rfl)
  (Nat.le_trans (Nat.le_of_eq List.length_range) (Nat.le_trans L.gw.few (by decide)))
 have hit:=y9 L.rows
 have hold:∀ i∈jfN w now,i < w.rws.length:=fun i hi=>List.mem_range.1 (List.mem_filter.1 hi).1
 have hn:(jfN w now).length≤27:=Nat.le_trans (List.length_filter_le ..) (Nat.le_trans (Nat.le_of_eq List.length_range) L.gw.few)
 have hself:=jW S (.list ((jfN w now).map fun i=>.ref (r (.row i))))
 refine vQ (jb7 d S.length (.int now) r (jfN w now) r w (S++[.list ((jfN w now).map fun i=>.ref (r (.row i)))]) (some (.ref S.length)) none (L.app _) hold rfl (fun _ _=>rfl) (fun y hy=>Nat.ne_of_lt (L.lt hy)) (j5 hself)) fun r' S' e3' L' M' e'=>kq ⟨r',S',L',(Mv.app _).trans M',?_⟩
 have hlen:=xT ((M'.fr S.length (j5 hself) (fun y hy=>Nat.ne_of_lt (L.lt hy))).trans hself) (kU hn)
 rw [List.length_map] at hlen
 exact jm9 (d+1) S (AV.ref (r Rl.world)) (AV.int now) _ (zZ w1 w2) _ (hit) _ (kA rfl) _ (hcomp) _ (y9 hself) _ (e') _ (hlen)
end
end Mine.Law
end
section
open PySem
namespace Mine.Law
theorem uK {eq:AV→AV→Option Bool} {a z:AV} {as zs:List AV} {x y:Bool} (h1:eq a z=some x) (h2:jU eq as zs=some y):jU eq (a::as) (z::zs)=some (x&&y):=by
 show (match eq a z,jU eq as zs with | some x,some y=>some (x&&y) | _,_=>none)=_
 rw [h1,h2]
theorem wZ {eq:AV→AV→Option Bool}:∀ xs:List AV,(∀ x∈xs,eq x x=some true)→jU eq xs xs=some true
 | [],_=>rfl
 | x::r,h=>uK (h x List.mem_cons_self) (wZ r fun y hy=>h y (List.mem_cons_of_mem _ hy))
section
variable {r:Rl→Nat} {c:Cs} {b:B} {w:W} {S:St}
theorem qU (n:Nat) (i:Int):eqV S (n+1) (.int i) (.int i)=some true:=show some (decide (i=i))=some true from congrArg some (decide_eq_true rfl)
theorem jpE (n:Nat) (xs:List AV) (h:∀ x∈xs,eqV S n x x=some true):eqV S (n+1) (.tup xs) (.tup xs)=some true:=show (jU (eqV S n) xs xs).map _=some true from mpp (wZ xs h) (congrArg some (decide_eq_true rfl))
theorem wI (n:Nat) (xs:List Int):eqV S (n+2) (.tup (xs.map .int)) (.tup (xs.map .int))=some true:=jpE _ _ fun _ hx=>xEA (List.mem_map.1 hx) fun i _ e=>e▸qU n i
theorem b_min (k:Nat) (S:St):jN "min" [.ref k] S=((listAt S k).bind fun xs=>(intsOf xs).bind Mine.minI).map fun i=>(.int i,S):=rfl
theorem min_of {k:Nat} {i:Nat} {l:List Nat} (h:S[k]? = some (.list ((i::l).map fun i=>.int (num i)))):jN "min" [.ref k] S=some (.int (num (minI i l)),S):=
 (b_min k S).trans (mpp (bnd (qJ h) (bnd ((congrArg intsOf (List.map_map (f:=num) (g:=AV.int) (l:=i::l)).symm).trans (jdG _)) rfl)) (congrArg (fun z=>some (AV.int z,S)) (min_map _ _)))
theorem jsV {j k:Nat} {xs:List AV} (h1:S[j]? = some (.list xs)):eqD S (.ref j) (.ref k)=none:=bnd (a:=j) rfl (bnd (a:=k) rfl ((congrArg (fun o:Option (Nat×List (AV×AV)×Nat)=>o.bind _) (bnd h1 rfl:dictAt S j=none))))
theorem jjP {n j k:Nat} {xs ys:List AV} (h1:S[j]? = some (.list xs)) (h2:S[k]? = some (.list ys)):eqV S (n+1) (.ref j) (.ref k)=if xs.length=ys.length then jU (eqV S n) xs ys else some false:=show ((listAt S j).bind fun xs=>(listAt S k).bind fun ys=>if xs.length=ys.length then jU (eqV S n) xs ys else some false)=_ from bnd (qJ h1) (bnd (qJ h2) rfl)
theorem tY {j k:Nat} {xs ys:List AV} (h1:S[j]? = some (.list xs)) (h2:S[k]? = some (.list ys)):xC S (.ref j) (.ref k)=if xs.length=ys.length then jU (eqV S 5) xs ys else some false:=(congrArg (fun o=>Option.getD o (eqV S 6 (.ref j) (.ref k))) (jsV h1)).trans (jjP h1 h2)
theorem eq_nil {j k:Nat} {xs:List AV} (h1:S[j]? = some (.list xs)) (h2:S[k]? = some (.list [])):jO S .Eq (.ref j) (.ref k)=some (decide (xs=[])):=(tY h1 h2).trans (by
 rcases xs with _ | ⟨x,r⟩
 ·rfl
 ·rfl)
theorem juK (L:Lay r c b w S) (now:Int) (d:Nat) :
  ∃ r' S',Lay r' c b (jbJ w now).1 S'∧Mv b w r S b (jbJ w now).1 r' S'∧j1 prg (d+3) "_law_room" [.ref (r .world),.int now] S=some (.bool (jbJ w now).2,S'):=by
 refine jB (jaM L now d) fun r1 S1 L1 M1 e1=>?_
 delta jbJ
 by_cases hp:(kB w now).2 > 0
 ·rw [if_pos hp]
  exact ⟨r1,S1,L1,M1,nE (d+2) S (AV.ref (r Rl.world)) (AV.int now) _ (e1) _ (gt_t hp S1)⟩
 ·rw [if_neg hp]
  generalize (kB w now).1=wn at L1 M1
  have W0:∀ ys,k9 (S1++ys) (.ref (r .world)) (.str "talks")=some (.ref (r1 .wtalks)):=fun ys=>xEA (L1.app ys).world fun p p1 p2=>k8 (M1.keep .world trivial trivial▸p1) p2
  have n4:¬ ((4:Int)=0∨2^64≤(4:Int).natAbs):=by decide
  have n2:¬ ((2:Int)=0):=by decide
  have hcomp:=wA (S0:=S1) (g:=r1 .wtalks) (L1.lt trivial)
   (cond:=fun v S=>n7 (j1 prg (d+2)) [.cmp .Eq (.bin .Mod (.bin .FloorDiv (.sub (.sub (.sub (.loc 0) (.con (.str "talks"))) (.loc 3)) (.con (.str "status"))) (.con (.int 4))) (.con (.int 2))) (.con (.int 0))] (Ev.put [some (.ref (r .world)),some (.int now),none,none] 3 v) S)
   (put:=fun v S'=>(rE (j1 prg (d+2)) (.loc 3) (Ev.put [some (.ref (r .world)),some (.int now),none,none] 3 v) S').bind fun u=>jbQ S1.length u.1 u.2) (wB wn) (fun i=>.int (num i)) (fun i=>.int (num i)) wn.wl []
   (fun i hi acc=>xEA ((L1.app [AO.list acc]).row (List.getElem?_eq_getElem (L1.gw.wl i hi))) fun p p1 p2=>
    mS ((exq (j1 prg (d+2)) (.cmp .Eq (.bin .Mod (.bin .FloorDiv (.sub (.sub (.sub (.loc 0) (.con (.str "talks"))) (.loc 3)) (.con (.str "status"))) (.con (.int 4))) (.con (.int 2))) (.con (.int 0))) [some (.ref (r .world)),some (.int now),none,some (.int (num i))] (S1++[.list acc]) _ (W0 _) _ ((L1.app _).sub_wtalks hi) _ (qF p1 p2) _ (jsF n4 _ _) _ (b_mod n2 _ _) _ (jhS _ _ 0)).trans
     (congrArg (fun t=>some (AV.bool t,S1++[AO.list acc])) (jo7 (List.getElem?_eq_getElem (L1.gw.wl i hi))).symm)))
   (fun i _ acc=>rfl)
   (Nat.le_trans L1.gw.wln (by decide))
  refine xEA (L1.at_ .wtalks trivial) fun ot t1 t2=>?_
  have hit:itemsOf S1 (.ref (r1 .wtalks))=some (wn.wl.map fun i=>.int (num i),some (r1 .wtalks)):=(tZ t1 t2).trans (congrArg (fun l=>some (l,some (r1 .wtalks))) List.map_map)
  have hmm:∀ i∈wn.wl.filter (wB wn),i∈wn.wl:=fun i hi=>(List.mem_filter.1 hi).1
  generalize wn.wl.filter (wB wn)=F at *
  have hself:∀ ys,(S1++[AO.list (F.map fun i=>.int (num i))]++ys)[S1.length]? = some (.list (F.map fun i=>.int (num i))):=fun ys=>(List.getElem?_append_left (j5 (jW _ _))).trans (jW _ _)
  have heq:=eq_nil (hself [AO.list []]) (jW _ _)
  have M2:=(M1.trans (Mv.app [AO.list (F.map fun i=>AV.int (num i))])).trans (Mv.app [AO.list []])
  have L3:=(L1.app [AO.list (F.map fun i=>AV.int (num i))]).app [AO.list []]
  have start:∀ {kn:Ev→St→Prop} {kr:AV→St→Prop},(qB (j1 prg (d+2)) tT [some (.ref (r .world)),some (.int now),none,none] S kn kr)→qB (j1 prg (d+2)) [.ifs (.cmp .Eq (.loc 2) (.lst [])) [.ret (.con (.bool false))] [],
    .expr (.call "_law_out" [.loc 0,.sub (.sub (.loc 0) (.con (.str "talks"))) (.bltn "min" [.loc 2])]),
    .ret (.con (.bool true))] [some (.ref (r .world)),some (.int now),some (.ref S1.length),none] (S1++[AO.list (F.map fun i=>.int (num i))]) kn kr:=fun {kn kr} H=>by
   exact H _ (e1) _ (gt_f hp S1) _ (List.append_nil S1▸W0 []) _ (hit) _ (kA rfl) _ (hcomp)
  cases F with
  | nil=>exact ⟨r1,_,L3,M2,start (nE (d+2) S (AV.ref (r Rl.world)) (AV.int now)) _ (heq)⟩
  | cons i l=>
   have hmem:=hmm (minI i l) (List.mem_cons.2 (mD i l))
   refine jB (joY L3 (L1.gw.wl _ hmem) (d+1)) fun r2 S2 L2 M3 e2=>?_
   rw [M1.keep .world trivial trivial] at e2
   exact ⟨r2,S2,L2,M2.trans M3,start (nE (d+2) S (AV.ref (r Rl.world)) (AV.int now)) _ (heq) _ (List.append_assoc ..▸W0 _) _ (min_of (hself _)) _ (L3.sub_wtalks hmem) _ (e2)⟩
end
end Mine.Law
end
section
open PySem
namespace Mine.Law
noncomputable def okL:List Int:=[0,4,6,8,12,14,512,516,518,520,524,526]
theorem jwE:∀ s∈okL,Builtin.bitOr s 512=Int.fmod s 512+512∧Builtin.bitOr s 512∈okL∧(Builtin.bitAnd (Builtin.bitOr s 512) 8=0 ↔ Builtin.bitAnd s 8=0):=by decide +kernel
theorem jrY:∀ s∈okL,Builtin.bitAnd s 8=0→Builtin.bitOr s 8=s+8∧Builtin.bitOr s 8∈okL∧¬ Builtin.bitAnd (Builtin.bitOr s 8) 8=0:=by decide +kernel
theorem jpU:∀ s∈okL,(Builtin.bitAnd s 8=0 ↔ ¬ Int.fmod (Int.fdiv s 8) 2=1):=by decide +kernel
theorem jwU:∀ s∈okL,(Builtin.bitAnd s 4=0 ↔ Int.fmod (Int.fdiv s 4) 2=0):=by decide +kernel
noncomputable def jjO (i:Nat) (x:R):List Ent:=jA (x.zone,x.b) (i,1) (jA (x.zone,x.a) (i,0) [])
noncomputable def jcY (rws:List R) (i:Nat):List Ent:=match rws[i]? with
 | none=>[]
 | some x=>jjO i x
noncomputable def tabOf (rws:List R) (l:List Nat):List Ent:=l.flatMap (jcY rws)
theorem mJ {i:Nat} {x:R} {e:Ent} (h:e∈jjO i x):e=((x.zone,x.b),(i,1))∨e=((x.zone,x.a),(i,0)):=by
 exact (z0 h).elim .inl fun h=>(z0 h).elim .inr fun h=>nomatch h
theorem jaP {rws:List R} {l:List Nat} {e:Ent} (h:e∈tabOf rws l):∃ i x,i∈l∧rws[i]? = some x∧e∈jjO i x:=by
 refine xEA (List.mem_flatMap.1 h) fun i hi he=>?_
 have he:e∈(match rws[i]? with | none=>[] | some x=>jjO i x):=he
 cases hx:rws[i]? with
 | none=>rw [hx] at he;exact nomatch he
 | some x=>rw [hx] at he;exact ⟨i,x,hi,hx,he⟩
theorem jaK {rws:List R} {l:List Nat} {e:Ent} (h:e∈tabOf rws l):e.2.1∈l:=by
 exact jB (jaP h) fun i x hi _ he=>(mJ he).elim (fun q=>q▸hi) fun q=>q▸hi
theorem jgP {rws:List R} {l:List Nat} {i:Nat} (h:i ∉ l) (y:R):tabOf (rws.set i y) l=tabOf rws l:=by
 unfold tabOf
 induction l with
 | nil=>rfl
 | cons j l ih=>
  have hj:i≠j:=fun e=>h (e▸List.mem_cons_self)
  rw [List.flatMap_cons,List.flatMap_cons,ih fun q=>h (List.mem_cons_of_mem _ q)]
  congr 1
  delta jcY
  rw [List.getElem?_set_ne hj]
theorem nP (rws:List R) (i:Nat):∀ l:List Nat,(tabOf rws l).filter (yB i)=tabOf rws (l.filter fun j=>!decide (j=i))
 | []=>rfl
 | j::l=>by
  have hk:∀ e∈jcY rws j,e.2.1=j:=fun e he=>List.mem_singleton.1 (jaK (rws:=rws) (List.mem_flatMap.2 ⟨j,List.mem_singleton.2 rfl,he⟩))
  have ih:((tabOf rws l).filter (yB i))=_:=nP rws i l
  have e:tabOf rws (j::l)=jcY rws j++tabOf rws l:=List.flatMap_cons ..
  rw [e,List.filter_append,ih]
  by_cases h:j=i
  ·rw [List.filter_eq_nil_iff (p:=yB i).2 fun e he q=>Bool.false_ne_true ((congrArg not (decide_eq_true ((hk e he).trans h))).symm.trans q),List.filter_cons_of_neg (by simp [h])];rfl
  ·rw [List.filter_eq_self (p:=yB i).2 fun e he=>congrArg not (decide_eq_false fun q=>h ((hk e he).symm.trans q)),List.filter_cons_of_pos (by simp [h])]
   exact (List.flatMap_cons ..).symm
theorem erase_filter {i:Nat}:∀ {l:List Nat},l.Nodup→l.erase i=l.filter fun j=>!decide (j=i)
 | [],_=>rfl
 | j::l,h=>by
  rw [List.nodup_cons] at h
  by_cases e:j=i
  ·subst e
   rw [List.erase_cons_head,List.filter_cons,if_neg (by simp)]
   symm
   rw [List.filter_eq_self]
   intro k hk
   simp only [Bool.not_eq_true',decide_eq_false_iff_not]
   exact fun q=>h.1 (q▸hk)
  ·rw [List.erase_cons_tail (by simpa using e),List.filter_cons,if_pos (by simpa using e),erase_filter h.2]
theorem jcF {tab:List Ent} (hN:(tab.map (·.1)).Nodup) (k:Key) (v:Nat×Int):(if j6 k tab=some v then yS k tab else tab)=tab.filter fun e=>!decide (e=(k,v)):=by
 by_cases h:j6 k tab=some v
 ·rw [if_pos h,gL hN]
  refine List.filter_congr fun e he=>?_
  have h1:=zD hN (show (e.1,e.2)∈tab from he)
  by_cases q:e.1=k
  ·rw [q,h] at h1
   have:e=(k,v):=by rw [Option.some.inj h1,← q]
   simp [this]
  ·have:e≠(k,v):=fun z=>q (by rw [z])
   simp [q,this]
 ·rw [if_neg h]
  symm
  rw [List.filter_eq_self]
  intro e he
  simp only [Bool.not_eq_true',decide_eq_false_iff_not]
  intro q
  exact h (zD hN (q▸he))
structure Cpl (b:B) (w:W):Prop where
 rows:b.tks=w.rws
 live:b.bl=w.wl
 fl:b.fl=w.fl
 hung:b.el.map (fun j=>b.exs[j]?)=w.wh.map some
 tab:b.tab=tabOf w.rws w.wl
 tabN:(b.tab.map (·.1)).Nodup
 wlN:w.wl.Nodup
 ok:∀ (i:Nat) (x:R),w.rws[i]? = some x→x.st∈okL
 on:∀ (i:Nat) (x:R),w.rws[i]? = some x→i∈w.wl→¬ Builtin.bitAnd x.st 8=0
 scn:b.scn.length=b.tks.length
section
variable {b:B} {w:W}
theorem Cpl.tabIn (C:Cpl b w):jlQ b:=fun e he=>by
 rw [C.tab] at he
 rw [C.live]
 exact jaK he
theorem jbT {l:List Nat} {m:List (Nat×Int)} {f:Nat→Option (Nat×Int)} (i:Nat) (h:l.map f=m.map some):(l.filter fun j=>!decide ((f j).map (·.1)=some i)).map f=(m.filter (gH i)).map some:=by
 induction l generalizing m with
 | nil=>induction m using List.casesOn with
  | nil=>rfl
  | cons _ _=>simp at h
 | cons j l ih=>induction m using List.casesOn with
  | nil=>simp at h
  | cons p m=>
   simp only [List.map_cons,List.cons.injEq] at h
   have:=ih h.2
   by_cases q:p.1=i
   ·rw [List.filter_cons,if_neg (by simp [h.1,q]),List.filter_cons,if_neg (by simp [gH,q])]
    exact this
   ·rw [List.filter_cons,if_pos (by simp [h.1,q]),List.filter_cons,if_pos (by simp [gH,q]),List.map_cons,List.map_cons,h.1,this]
theorem Cpl.drop (C:Cpl b w) {i:Nat} {x:R} (hx:w.rws[i]? = some x):Cpl (kZ b i x) (vS w i x):=by
 have hi:=j5 hx
 have hok:=C.ok i x hx
 refine xAA (jwE x.st hok) fun k1 k2 k3=>?_
 have htab:mG i x 1 (mG i x 0 b.tab)=b.tab.filter (yB i):=by
  have e0:mG i x 0 b.tab=b.tab.filter fun e=>!decide (e=((x.zone,x.a),(i,(0:Int)))):=jcF C.tabN _ _
  have hN0:((mG i x 0 b.tab).map (·.1)).Nodup:=C.tabN.sublist ((zO i x 0 b.tab).map _)
  have e1:mG i x 1 (mG i x 0 b.tab)=(mG i x 0 b.tab).filter fun e=>!decide (e=((x.zone,x.b),(i,(1:Int)))):=jcF hN0 _ _
  rw [e1,e0,List.filter_filter]
  refine List.filter_congr fun e he=>?_
  rw [C.tab] at he
  refine jB (jaP he) fun j y hj hy hm=>?_
  by_cases q:e.2.1=i
  ·have hji:j=i:=by rcases mJ hm with rfl | rfl<;>exact q
   subst hji
   rw [hx] at hy
   rw [← Option.some.inj hy] at hm
   rcases mJ hm with rfl | rfl<;>simp [yB]
  ·have h1:e≠((x.zone,x.a),(i,(0:Int))):=fun z=>q (by rw [z])
   have h2:e≠((x.zone,x.b),(i,(1:Int))):=fun z=>q (by rw [z])
   simp [yB,q,h1,h2]
 have hnm:i ∉ w.wl.erase i:=fun h=>((List.Nodup.mem_erase_iff C.wlN).1 h).1 rfl
 refine { rows:=?_,live:=by simp only [kZ,vS,C.live],fl:=by simp only [kZ,vS,C.fl],hung:=?_,tab:=?_,tabN:=?_,wlN:=C.wlN.erase i,ok:=fun j y hy=>?_,on:=fun j y hy hj=>?_,scn:=by simp only [kZ,List.length_set];exact C.scn }
 ·simp only [kZ,vS,C.rows,k1]
 ·simp only [kZ,vS,mst]
  exact jbT i C.hung
 ·simp only [kZ,vS]
  rw [htab,jgP hnm,erase_filter C.wlN,← nP,C.tab]
 ·simp only [kZ]
  exact C.tabN.sublist (((zO i x 1 _).trans (zO i x 0 _)).map _)
 ·simp only [vS] at hy
  by_cases e:i=j
  ·subst e
   rw [List.getElem?_set_self hi] at hy
   rw [← Option.some.inj hy,← k1];exact k2
  ·rw [List.getElem?_set_ne e] at hy
   exact C.ok j y hy
 ·simp only [vS] at hy hj
  have e:i≠j:=fun q=>hnm (q▸hj)
  rw [List.getElem?_set_ne e] at hy
  exact C.on j y hy (List.mem_of_mem_erase hj)
theorem qZ {k:Key} {v:Nat×Int}:∀ {l m:List Ent},k ∉ l.map (·.1)→jA k v (l++m)=l++jA k v m
 | [],m,_=>rfl
 | (x,u)::l,m,h=>(if_neg fun q:x=k=>h (q▸List.mem_cons_self):jA k v ((x,u)::(l++m))=_).trans (congrArg _ (qZ fun q=>h (List.mem_cons_of_mem _ q)))
theorem jkH (rws:List R):∀ (l:List Nat) (acc:List Ent),((acc++tabOf rws l).map (·.1)).Nodup→tP rws l acc=acc++tabOf rws l
 | [],acc,_=>(List.append_nil acc).symm
 | i::l,acc,hN=>by
  have e:tabOf rws (i::l)=jcY rws i++tabOf rws l:=List.flatMap_cons ..
  rw [e] at hN ⊢
  rw [← List.append_assoc] at hN ⊢
  refine Eq.trans ?_ (jkH rws l _ hN)
  rw [List.map_append] at hN
  replace hN:=(List.nodup_append.1 hN).1
  show tP rws l (match rws[i]? with
   | none=>acc
   | some x=>jA (x.zone,x.b) (i,1) (jA (x.zone,x.a) (i,0) acc))=_
  refine congrArg (tP rws l) ?_
  have hN:((acc++(match rws[i]? with | none=>[] | some x=>jjO i x)).map (·.1)).Nodup:=hN
  delta jcY
  cases hx:rws[i]? with
  | none=>exact (List.append_nil acc).symm
  | some x=>
   rw [hx,List.map_append] at hN
   have hd:∀ k,k∈(jjO i x).map (·.1)→k ∉ acc.map (·.1):=fun k hk hk2=>(List.nodup_append.1 hN).2.2 k hk2 k hk rfl
   show jA (x.zone,x.b) (i,1) (jA (x.zone,x.a) (i,0) acc)=_
   rw [← List.append_nil acc,qZ (hd _ ((yG _).2 (.inr ((yG _).2 (.inl rfl))))),qZ (hd _ ((yG _).2 (.inl rfl))),List.append_nil];rfl
theorem Cpl.ends (C:Cpl b w):xK w=b.tab:=by
 have hN:=C.tabN
 rw [C.tab] at hN ⊢
 exact jkH w.rws w.wl [] hN
theorem Cpl.look (C:Cpl b w) (z:Int) (t:T6) (now:Int):(kF b z t now).2=(yY w z t now).2∧Cpl (kF b z t now).1 (yY w z t now).1:=by
 delta kF yY
 rw [C.ends]
 cases hv:j6 (z,t) b.tab with
 | none=>exact ⟨rfl,C⟩
 | some v=>
  rw [C.rows]
  dsimp only
  cases hx:w.rws[v.1]? with
  | none=>exact ⟨rfl,C⟩
  | some x=>
   dsimp only
   by_cases hu:x.un≤now
   ·rw [if_pos hu,if_pos hu];exact ⟨rfl,C.drop hx⟩
   ·rw [if_neg hu,if_neg hu];exact ⟨rfl,C⟩
theorem Cpl.look_none (C:Cpl b w) {z:Int} {t:T6} {now:Int}:(kF b z t now).2=none→j6 (z,t) (kF b z t now).1.tab=none:=
 zC (P:=fun F=>F.2=none→j6 (z,t) F.1.tab=none) (fun hv _=>hv)
  (fun v hv hx _=>jB (jaP (C.tab▸yQ hv)) fun j y hj hy he=>absurd ((mJ he).elim (fun q=>congrArg (·.2.1) q) fun q=>congrArg (·.2.1) q:v.1=j) fun q=>nomatch (C.rows▸hx).symm.trans (q▸hy))
  (fun v x hv hx _ _=>aget_none.2 fun hk=>xEA (List.mem_map.1 hk) fun e he he3=>by
   have h1:=jaK ((C.drop (C.rows▸hx)).tab▸he)
   have h3:=zD C.tabN (show (e.1,e.2)∈b.tab from ((zO v.1 x 1 _).trans (zO v.1 x 0 _)).subset he)
   rw [he3,hv] at h3
   rw [← Option.some.inj h3] at h1
   exact ((List.Nodup.mem_erase_iff C.wlN).1 h1).1 rfl)
  fun _ _ _ _ _ h=>nomatch h
theorem jrH (b:B) (z:Int) (t:T6) (now:Int):(kF b z t now).1.tab.Sublist b.tab:=
 zC (P:=fun F=>F.1.tab.Sublist b.tab) (fun _=>.refl _) (fun _ _ _=>.refl _) (fun v x _ _ _=>(zO v.1 x 1 _).trans (zO v.1 x 0 _)) fun _ _ _ _ _=>.refl _
theorem Cpl.add (C:Cpl b w) {i:Nat} {x:R} (hx:w.rws[i]? = some x) (hi:i ∉ w.wl) (h8:Builtin.bitAnd x.st 8=0) (ha:j6 (x.zone,x.a) b.tab=none) (hb:j6 (x.zone,x.b) b.tab=none):Cpl (addB b i x) (addW w i x):=by
 have hl:=j5 hx
 refine xAA (jrY x.st (C.ok i x hx) h8) fun k1 k2 k3=>?_
 rw [aget_none] at ha hb
 have hself:(w.rws.set i { x with st:=x.st+8 })[i]? = some { x with st:=x.st+8 }:=List.getElem?_set_self hl
 refine { rows:=(congr (congrArg (List.set · i) C.rows) (congrArg (fun s=>{ x with st:=s }) k1) :),live:=congrArg (· ++ [i]) C.live,fl:=C.fl,hung:=C.hung,tab:=?_,tabN:=qG (qG C.tabN),wlN:=nK C.wlN hi,ok:=fun j y hy=>?_,on:=fun j y hy hj=>?_,scn:=C.scn.trans List.length_set.symm }
 ·show jA (x.zone,x.b) (i,1) (jA (x.zone,x.a) (i,0) b.tab)=tabOf (w.rws.set i { x with st:=x.st+8 }) (w.wl++[i])
  have h2:tabOf (w.rws.set i { x with st:=x.st+8 }) (w.wl++[i])=b.tab++(jcY (w.rws.set i { x with st:=x.st+8 }) i++[]):=List.flatMap_append.trans (congrArg (· ++ _) ((jgP hi _).trans C.tab.symm))
  rw [h2,← List.append_nil b.tab,qZ ha,qZ hb,List.append_nil,List.append_nil]
  delta jcY
  rw [hself]
  rfl
 ·by_cases e:i=j
  ·subst e
   rw [← Option.some.inj (hself.symm.trans hy),← k1];exact k2
  ·exact C.ok j y ((List.getElem?_set_ne e).symm.trans hy)
 ·by_cases e:i=j
  ·subst e
   rw [← Option.some.inj (hself.symm.trans hy),← k1];exact k3
  ·exact C.on j y ((List.getElem?_set_ne e).symm.trans hy) ((List.mem_append.1 hj).elim id fun q=>absurd (List.mem_singleton.1 q).symm e)
theorem Cpl.off (C:Cpl b w) {i:Nat} {x:R} (hx:w.rws[i]? = some x) (h8:Builtin.bitAnd x.st 8=0):i ∉ w.wl:=fun h=>C.on i x hx h h8
theorem Cpl.confirm (C:Cpl b w) (i:Nat) (now:Int):(tG b i now).2=(vX w i now).2∧Cpl (tG b i now).1 (vX w i now).1:=by
 delta tG vX
 rw [C.rows]
 cases hx:w.rws[i]? with
 | none=>exact ⟨rfl,C⟩
 | some x=>
  have hok:=jpU x.st (C.ok i x hx)
  show (jkK b i now x).2=(jdT w i now x).2∧Cpl (jkK b i now x).1 (jdT w i now x).1
  delta jkK jdT
  by_cases h8:Builtin.bitAnd x.st 8=0
  ·have hi:=C.off hx h8
   refine xA (C.look x.zone x.a now) fun q1 C1=>?_
   refine xA (C1.look x.zone x.b now) fun q2 C2=>?_
   rw [if_pos h8,if_neg (hok.1 h8),← q1,← q2]
   by_cases s1:(kF b x.zone x.a now).2.isSome=true
   ·rw [if_pos s1,if_pos s1];exact ⟨rfl,C1⟩
   ·rw [if_neg s1,if_neg s1]
    by_cases s2:(kF (kF b x.zone x.a now).1 x.zone x.b now).2.isSome=true
    ·rw [if_pos s2,if_pos s2];exact ⟨rfl,C2⟩
    ·rw [if_neg s2,if_neg s2]
     exact ⟨rfl,C2.add ((uQ (w9 hi _ _ _) ..).trans ((uQ hi ..).trans hx)) (w9 (w9 hi _ _ _) _ _ _) h8 (aget_none.2 fun q=>aget_none.1 (C.look_none (Option.not_isSome_iff_eq_none.1 s1)) (((jrH _ x.zone x.b now).map _).subset q)) (C1.look_none (Option.not_isSome_iff_eq_none.1 s2))⟩
  ·rw [if_neg h8,if_pos (Decidable.of_not_not fun q=>h8 (hok.2 q))];exact ⟨rfl,C⟩
end
end Mine.Law
end
section
open PySem
namespace Mine.Law
noncomputable def t9 (w:W) (now:Int) (i:Nat):Bool:=match w.rws[i]? with
 | some x=>decide (x.un≤now)
 | none=>false
theorem gN (w:W) (i j:Nat):(outI w i).rws[j]? = (w.rws[j]?).map fun x=>if j=i then { x with st:=Int.fmod x.st 512+512 } else x:=by
 unfold outI
 cases hx:w.rws[i]? with
 | none=>
  by_cases e:j=i
  ·subst e;simp [hx]
  ·cases w.rws[j]?<;>simp [e]
 | some x=>
  simp only [vS]
  by_cases e:j=i
  ·subst e;rw [List.getElem?_set_self (j5 hx),hx];simp
  ·rw [List.getElem?_set_ne (Ne.symm e)];cases w.rws[j]?<;>simp [e]
theorem jsQ (w:W) (now:Int) (i j:Nat):t9 (outI w i) now j=t9 w now j:=by
 unfold t9
 rw [gN]
 cases hx:w.rws[j]? with
 | none=>rfl
 | some x=>
  by_cases e:j=i
  ·simp [e]
  ·simp [e]
theorem jr0 (w:W) (i j:Nat):outI (outI w i) j=outI (outI w j) i:=by
 by_cases e:i=j
 ·rw [e]
 ·cases hx:w.rws[i]? with
  | none=>
   have h1:outI w i=w:=by simp only [outI,hx]
   rw [h1]
   have h2:(outI w j).rws[i]? = none:=by rw [gN,hx];rfl
   have h3:outI (outI w j) i=outI w j:=by
    rw [outI,h2]
   rw [h3]
  | some x=>
   cases hy:w.rws[j]? with
   | none=>
    have h1:outI w j=w:=by simp only [outI,hy]
    rw [h1]
    have h2:(outI w i).rws[j]? = none:=by rw [gN,hy];rfl
    have h3:outI (outI w i) j=outI w i:=by
     rw [outI,h2]
    rw [h3]
   | some y=>
    have hx':(outI w j).rws[i]? = some x:=by rw [gN,hx];simp [e]
    have hy':(outI w i).rws[j]? = some y:=by rw [gN,hy];simp [Ne.symm e]
    rw [qA hx',qA hy',qA hx,qA hy]
    simp only [vS]
    rw [List.set_comm _ _ e,List.erase_comm]
    congr 1
    ·rw [List.filter_filter,List.filter_filter]
     exact List.filter_congr fun a _=>Bool.and_comm _ _
    ·rw [List.filter_filter,List.filter_filter]
     exact List.filter_congr fun a _=>Bool.and_comm _ _
section
variable {b:B} {w:W}
theorem Cpl.sweepL (now:Int):∀ (l:List Nat) {b:B} {w:W} (n:Int),Cpl b w→(sweepL now l (b,n)).2=n+((l.filter (t9 w now)).length:Int)∧Cpl (sweepL now l (b,n)).1 ((l.filter (t9 w now)).foldl outI w)
 | [],b,w,n,C=>⟨by simp [Mine.Law.sweepL],C⟩
 | i::l,b,w,n,C=>by
  cases hx:w.rws[i]? with
  | none=>
   have hx':b.tks[i]? = none:=by rw [C.rows];exact hx
   have ho:t9 w now i=false:=by simp only [t9,hx]
   have hs:Mine.Law.sweepL now (i::l) (b,n)=Mine.Law.sweepL now l (b,n):=by simp only [Mine.Law.sweepL,hx']
   rw [hs,List.filter_cons,if_neg (by simp [ho])]
   exact Cpl.sweepL now l n C
  | some x=>
   have hx':b.tks[i]? = some x:=by rw [C.rows];exact hx
   by_cases hu:x.un≤now
   ·have ho:t9 w now i=true:=by simp only [t9,hx,hu,decide_true]
    have hs:Mine.Law.sweepL now (i::l) (b,n)=Mine.Law.sweepL now l (kZ b i x,n+1):=by simp only [Mine.Law.sweepL,hx',if_pos hu]
    rw [hs,List.filter_cons,if_pos ho]
    have ih:=Cpl.sweepL now l (n+1) (C.drop hx)
    have hf:l.filter (t9 (vS w i x) now)=l.filter (t9 w now):=List.filter_congr fun j _=>by
     rw [← qA hx];exact jsQ w now i j
    rw [hf] at ih
    refine ⟨by rw [ih.1];simp only [List.length_cons];lia,?_⟩
    rw [List.foldl_cons,qA hx]
    exact ih.2
   ·have ho:t9 w now i=false:=by simp only [t9,hx,hu,decide_false]
    have hs:Mine.Law.sweepL now (i::l) (b,n)=Mine.Law.sweepL now l (b,n):=by simp only [Mine.Law.sweepL,hx',if_neg hu]
    rw [hs,List.filter_cons,if_neg (by simp [ho])]
    exact Cpl.sweepL now l n C
theorem jv7 (C:Cpl b w) (now:Int):(w.wl.filter (t9 w now)).Perm (jfN w now):=by
 refine (List.perm_ext_iff_of_nodup (C.wlN.filter _) (List.nodup_range.filter _)).2 fun j=>?_
 simp only [jfN,List.mem_filter,List.mem_range,jlD,Bool.and_eq_true,decide_eq_true_eq]
 constructor
 ·rintro ⟨h1,h2⟩
  refine ⟨?_,h1,h2⟩
  unfold t9 at h2
  cases hx:w.rws[j]? with
  | none=>rw [hx] at h2;exact Bool.noConfusion h2
  | some x=>exact j5 hx
 ·rintro ⟨_,h1,h2⟩
  exact ⟨h1,h2⟩
theorem Cpl.sweep (C:Cpl b w) (now:Int):(kH b now).2=(kB w now).2∧Cpl (kH b now).1 (kB w now).1:=by
 refine xA (Cpl.sweepL now b.bl 0 C) fun h1 h2=>?_
 rw [C.live] at h1 h2
 have hp:=jv7 C now
 have hf:(w.wl.filter (t9 w now)).foldl outI w=(jfN w now).foldl outI w:=hp.foldl_eq' (fun x _ y _ z=>jr0 z x y) w
 rw [hf] at h2
 simp only [kH,kB,C.live]
 refine ⟨?_,h2⟩
 rw [h1,hp.length_eq];lia
theorem jgG:∀ (l:List Nat) (w:W),(l.foldl outI w).rws.length=w.rws.length
 | [],w=>rfl
 | i::l,w=>by rw [List.foldl_cons,jgG l,jkE]
theorem jnU (w:W) (now:Int):(kB w now).1.rws.length=w.rws.length:=jgG _ _
theorem jeJ (i:Nat):∀ l:List Nat,l.Pairwise (fun a b=>num a≤num b)→(v8 (fun a b=>decide (num a < num b)) i l).Pairwise fun a b=>num a≤num b
 | [],_=>by simp [v8]
 | j::l,h=>by
  rw [List.pairwise_cons] at h
  simp only [v8]
  by_cases q:num i < num j
  ·rw [if_pos (by simpa using q),List.pairwise_cons]
   refine ⟨fun k hk=>?_,List.pairwise_cons.2 h⟩
   rcases List.mem_cons.1 hk with e | e
   ·rw [e];lia
   ·have:=h.1 k e;lia
  ·rw [if_neg (by simpa using q),List.pairwise_cons]
   refine ⟨fun k hk=>?_,jeJ i l h.2⟩
   rcases (jaI _ _ _ _).1 hk with e | e
   ·rw [e];lia
   ·exact h.1 k e
theorem nT:∀ l:List Nat,(kR l).Pairwise fun a b=>num a≤num b
 | []=>List.Pairwise.nil
 | i::l=>jeJ i _ (nT l)
theorem jiN (i:Nat):∀ l:List Nat,num (minI i l)≤num i∧∀ j∈l,num (minI i l)≤num j
 | []=>⟨Int.le_refl _,fun j h=>by simp at h⟩
 | k::l=>by
  have e:minI i (k::l)=minI (if num k < num i then k else i) l:=rfl
  rw [e]
  by_cases h:num k < num i
  ·rw [if_pos h]
   refine xA (jiN k l) fun h1 h2=>?_
   refine ⟨by lia,fun j hj=>?_⟩
   rcases List.mem_cons.1 hj with q | q
   ·rw [q];exact h1
   ·exact h2 j q
  ·rw [if_neg h]
   refine xA (jiN i l) fun h1 h2=>?_
   refine ⟨h1,fun j hj=>?_⟩
   rcases List.mem_cons.1 hj with q | q
   ·rw [q];lia
   ·exact h2 j q
theorem jrP {l:List Nat} {p:Nat→Bool} (h27:∀ i,p i=true→i < 27):(kR l).find? p=match l.filter p with
  | []=>none
  | i::m=>some (minI i m):=by
 cases hf:(kR l).find? p with
 | none=>
  rw [List.find?_eq_none] at hf
  have:l.filter p=[]:=by
   rw [List.filter_eq_nil_iff]
   exact fun i hi=>hf i ((uY _ _ _).2 hi)
  rw [this]
 | some i=>
  rw [List.find?_eq_some_iff_append] at hf
  refine xAEEA hf fun hp as bs he has=>?_
  have hmem:i∈l.filter p:=List.mem_filter.2 ⟨(uY _ _ _).1 (show i∈kR l by rw [he];simp),hp⟩
  have hmin:∀ j∈l,p j=true→num i≤num j:=fun j hj hpj=>by
   have hjs:j∈kR l:=(uY _ _ _).2 hj
   have hpw:=nT l
   rw [he] at hjs hpw
   rw [List.pairwise_append,List.pairwise_cons] at hpw
   rcases List.mem_append.1 hjs with q | q
   ·have:=has j q;rw [hpj] at this;exact Bool.noConfusion this
   ·rcases List.mem_cons.1 q with q | q
    ·rw [q];exact Int.le_refl _
    ·exact hpw.2.1.1 j q
  cases hl:l.filter p with
  | nil=>rw [hl] at hmem;simp at hmem
  | cons k m=>
   refine xA (jiN k m) fun h1 h2=>?_
   have hle:num (minI k m)≤num i:=by
    rw [hl] at hmem
    rcases List.mem_cons.1 hmem with q | q
    ·rw [q];exact h1
    ·exact h2 i q
   have hm:minI k m∈l.filter p:=by
    rw [hl]
    rcases mD k m with q | q
    ·rw [q];exact List.mem_cons_self
    ·exact List.mem_cons_of_mem _ q
   refine xA (List.mem_filter.1 hm) fun hm1 hm2=>?_
   have:=hmin _ hm1 hm2
   have hi27:=h27 i hp
   have hm27:=h27 _ hm2
   exact congrArg some (gU (by lia) (by lia) (by lia))
theorem Cpl.weak (C:Cpl b w) (i:Nat):Mine.Law.weak b i=wB w i:=by
 unfold Mine.Law.weak wB
 rw [C.rows]
 cases hx:w.rws[i]? with
 | none=>rfl
 | some x=>
  have:=jwU x.st (C.ok i x hx)
  by_cases q:Builtin.bitAnd x.st 4=0
  ·simp only [q,this.1 q,decide_true]
  ·have q2:¬ Int.fmod (Int.fdiv x.st 4) 2=0:=fun z=>q (this.2 z)
   simp only [q,q2,decide_false]
theorem Cpl.evict (C:Cpl b w) (hb:w.rws.length≤27) (now:Int):(uG b now).2=(jbJ w now).2∧Cpl (uG b now).1 (jbJ w now).1:=by
 refine xA (C.sweep now) fun h1 h2=>?_
 unfold uG jbJ
 rw [h1]
 by_cases hp:(kB w now).2 > 0
 ·rw [if_pos hp,if_pos hp];exact ⟨rfl,h2⟩
 ·rw [if_neg hp,if_neg hp]
  have hlen:(kB w now).1.rws.length≤27:=by rw [jnU];exact hb
  have hwk:Mine.Law.weak (kH b now).1=wB (kB w now).1:=funext h2.weak
  have h27:∀ i,wB (kB w now).1 i=true→i < 27:=fun i hi=>by
   unfold wB at hi
   cases hx:(kB w now).1.rws[i]? with
   | none=>rw [hx] at hi;exact Bool.noConfusion hi
   | some x=>exact Nat.lt_of_lt_of_le (j5 hx) hlen
  rw [hwk,h2.live,jrP h27]
  cases hl:(kB w now).1.wl.filter (wB (kB w now).1) with
  | nil=>exact ⟨rfl,h2⟩
  | cons i m=>
   simp only
   refine ⟨trivial,?_⟩
   unfold jcZ outI
   rw [h2.rows]
   cases hx:(kB w now).1.rws[minI i m]? with
   | none=>exact h2
   | some x=>exact h2.drop hx
end
end Mine.Law
end
section
open PySem
namespace Mine.Law
noncomputable def mM (n:Int):List Int→List Int
 | []=>[]
 | b::r=>Int.fmod n b::mM (Int.fdiv n b) r
noncomputable def jj6 (b:Int):Bool:=decide (0 < b)&&decide (b.natAbs < 2^64)
theorem yL (x y:Int) (S:St):zK .Add (.int x) (.int y) S=some (.int (x+y),S):=rfl
theorem jwN (x y:Int) (S:St):zK .Sub (.int x) (.int y) S=some (.int (x - y),S):=rfl
theorem joV (x y:Int) (S:St):zK .BitAnd (.int x) (.int y) S=some (.int (Builtin.bitAnd x y),S):=rfl
theorem t8 (op:Operator) (x y:Int) (S:St):zK op (.int x) (.int y) S=(jdU op x y).map fun i=>(.int i,S):=rfl
theorem qQ {y:Int} (h:¬ y=0) (x:Int) (S:St):zK .Mod (.int x) (.int y) S=some (.int (Int.fmod x y),S):=(t8 ..).trans (mpp (if_neg h) rfl)
theorem vM {y:Int} (h:¬ (y=0∨2^64≤y.natAbs)) (x:Int) (S:St):zK .FloorDiv (.int x) (.int y) S=some (.int (Int.fdiv x y),S):=(t8 ..).trans (mpp (if_neg h) rfl)
theorem vB {x:Int} (h:x.natAbs < 2^64) (y:Int) (S:St):zK .Mult (.int x) (.int y) S=some (.int (x*y),S):=(t8 ..).trans (mpp (if_pos (.inl h)) rfl)
theorem jl7 {y:Int} (h:y.natAbs < 2^64) (x:Int) (S:St):zK .Mult (.int x) (.int y) S=some (.int (x*y),S):=(t8 ..).trans (mpp (if_pos (.inr h)) rfl)
theorem jc4 {y:Int} (h:0≤y∧y≤200) (S:St):zK .Pow (.int 2) (.int y) S=some (.int ((2:Int)^y.toNat),S):=(t8 ..).trans (mpp (if_pos ⟨h.1,h.2,rfl⟩) rfl)
theorem jp0 {y:Int} (h:0≤y∧y≤64) (x:Int) (S:St):zK .RShift (.int x) (.int y) S=some (.int (Int.fdiv x ((2:Int)^y.toNat)),S):=(t8 ..).trans (mpp (if_pos h) rfl)
section
variable {S:St}
theorem jbH (call:Callee) (g:Nat) (hg:g < S.length):∀ (bs:List Int) (n:Int) (acc:List AV) (e1 e3:Option AV),bs.all jj6=true→acc.length+bs.length≤1000→
  ∃ n' e3',loop (fun e S=>rB call uE e S) (.loc 3) (some g) (bs.map .int) [some (.int n),e1,some (.ref S.length),e3] (S++[.list acc])=some (.nx [some (.int n'),e1,some (.ref S.length),e3'] (S++[.list (acc++(mM n bs).map .int)]))
 | [],n,acc,e1,e3,_,_=>⟨n,e3,by rw [show mM n []=[] from rfl,List.map_nil,List.append_nil];rfl⟩
 | b::bs,n,acc,e1,e3,hb,hl=>by
  simp only [List.all_cons,Bool.and_eq_true] at hb
  simp only [List.length_cons] at hl
  have hb1:=hb.1
  simp only [jj6,Bool.and_eq_true,decide_eq_true_eq] at hb1
  refine xEE (jbH call g hg bs (Int.fdiv n b) (acc++[.int (Int.fmod n b)]) e1 (some (.int b)) hb.2 (by simp only [List.length_append,List.length_cons,List.length_nil];lia)) fun n' e3' ih=>?_
  refine ⟨n',e3',?_⟩
  have h0:¬ (b=0):=by lia
  have h1:¬ (b=0∨2^64≤b.natAbs):=by lia
  have hself:(S++[AO.list acc])[S.length]? = some (.list acc):=by simp
  have happ:=w7 hself (Nat.le_trans (Nat.le_trans (Nat.le_add_right _ _) hl) (by decide)) (.int (Int.fmod n b))
  have hset:(S++[AO.list acc]).set S.length (.list (acc++[.int (Int.fmod n b)]))=S++[AO.list (acc++[.int (Int.fmod n b)])]:=by simp
  rw [hset] at happ
  have hst:∀ o o',stays (some g) (S++[o]) (S++[o'])=true:=fun o o'=>decide_eq_true ((List.getElem?_append_left hg).trans (List.getElem?_append_left hg).symm)
  rw [List.append_assoc] at ih
  refine jK rfl ?_ (hst _ _) ih
  exact (blk call uE (Ev.put [some (AV.int n),e1,some (AV.ref (List.length S)),e3] 3 (AV.int b)) (S++[AO.list acc]) _ (kA (uZ hself)) _ (qQ h0 _ _) _ (happ) _ (vM h1 _ _) :)
theorem jqG {k:Nat} {bs:List Int} (h:S[k]? = some (.list (bs.map .int))) (hb:bs.all jj6=true) (hl:bs.length≤1000) (n:Int) (d:Nat) :
  j1 prg (d+1) "_law_digits" [.int n,.ref k] S=some (.ref S.length,S++[.list ((mM n bs).map .int)]):=by
 have hk:k < S.length:=j5 h
 refine xEE (jbH (S:=S) (j1 prg d) k hk bs n [] (some (.ref k)) none hb (by rw [List.length_nil,Nat.zero_add];exact hl)) fun n' e3' e=>?_
 have hit:itemsOf (S++[AO.list []]) (.ref k)=some (bs.map .int,some k):=y9 (by rw [List.getElem?_append_left hk];exact h)
 exact (jhK d S (AV.int n) (AV.ref k) _ (hit) _ (e) :)
theorem jH (n:Int) {b:Int} (h:0 < b):0≤Int.fmod n b∧Int.fmod n b < b:=⟨Int.fmod_nonneg_of_pos n h,Int.fmod_lt_of_pos n h⟩
noncomputable def usualL:List Int:=[619,2174,3009024,4486673,14690434,140,269,13,14647,14344,7,10451331,85508,12,134,6,4357,11,11,11,10,3]
theorem jdC {l:List Int} {i:Int} (h0:0≤i) (h1:i < l.length) (h2:l.length≤1000):∃ v∈l,itemAt (l.map .int) i=some (.int v):=by
 have hi:i.toNat < l.length:=by lia
 refine ⟨l[i.toNat],List.getElem_mem hi,?_⟩
 simp only [itemAt]
 rw [if_pos ⟨h0,by lia⟩,List.getElem?_map,List.getElem?_eq_getElem hi];rfl
theorem lt_t {a z:Int} (h:a < z) (S:St):jO S .Lt (.int a) (.int z)=some true:=congrArg some (decide_eq_true h)
theorem lt_f {a z:Int} (h:¬ a < z) (S:St):jO S .Lt (.int a) (.int z)=some false:=congrArg some (decide_eq_false h)
noncomputable def zQ:List AO:=[.list [.int 619,.int 2174,.int 3009024,.int 4486673,.int 14690434,.int 140,.int 269,.int 13,.int 14647,.int 14344,.int 7],.list [.int 10451331,.int 85508,.int 12,.int 134,.int 6,.int 4357,.int 11,.int 11,.int 11,.int 10,.int 3],.list (usualL.map .int)]
theorem jc8 {xs:List Int} (h:S[0]? = some (.list (xs.map .int))) (hx:xs.length≤63) {k:Int} (h0:0≤k) (d:Nat) :
  ∃ v,j1 prg (d+1) "_law_draw" [.ref 0,.int k] S=some (.int v,S++zQ):=by
 have hself:∀ a:List AO,(S++a)[0]? = some (.list (xs.map .int)):=fun a=>by rw [List.getElem?_append_left (j5 h)];exact h
 let l1:AO:=.list [.int 619,.int 2174,.int 3009024,.int 4486673,.int 14690434,.int 140,.int 269,.int 13,.int 14647,.int 14344,.int 7]
 let l2:AO:=.list [.int 10451331,.int 85508,.int 12,.int 134,.int 6,.int 4357,.int 11,.int 11,.int 11,.int 10,.int 3]
 have e1:(S++[l1]++[l2])[S.length]? = some l1:=by simp
 have e2:(S++[l1]++[l2])[(S++[l1]).length]? = some l2:=by simp
 have hadd:zK .Add (.ref S.length) (.ref (S++[l1]).length) (S++[l1]++[l2])=some (.ref (S++[l1]++[l2]).length,S++[l1]++[l2]++[.list (usualL.map .int)]):=by
  exact bnd (qJ e1) (bnd (qJ e2) (if_pos (by decide)))
 have hlen:=xT (hself zQ) (z8 (Nat.le_trans hx (by decide)))
 rw [List.length_map] at hlen
 have as1:S++zQ=S++[l1]++[l2]++[AO.list (usualL.map .int)]:=by simp [zQ,l1,l2]
 rw [as1] at hlen
 have hs0:=hself zQ
 rw [as1] at hs0
 have hu:(S++[l1]++[l2]++[AO.list (usualL.map .int)])[(S++[l1]++[l2]).length]? = some (.list (usualL.map .int)):=by simp
 have n22:¬ ((22:Int)=0):=by decide
 have p40':(0:Int)≤40∧(40:Int)≤200:=by decide
 have n40:¬ ((2:Int)^(40:Int).toNat=0):=by decide
 by_cases hk:k < xs.length
 ·refine xEA (jdC (l:=xs) (i:=k) h0 hk (Nat.le_trans hx (by decide))) fun v _ hv=>?_
  have hsub:k9 (S++[l1]++[l2]++[AO.list (usualL.map .int)]) (.ref 0) (.int k)=some (.int v):=by rw [jcR hs0];exact hv
  refine ⟨Int.fmod v ((2:Int)^(40:Int).toNat),?_⟩
  rw [as1]
  exact (jeL d S (AV.ref 0) (AV.int k) _ (hadd) _ (hlen) _ (lt_t hk _) _ (hsub) _ (jc4 p40' _) _ (qQ n40 _ _) :)
 ·refine xEA (jdC (l:=usualL) (i:=Int.fmod k 22) (jH _ (by decide)).1 (jH _ (by decide)).2 (by decide)) fun v _ hv=>?_
  have hsub:k9 (S++[l1]++[l2]++[AO.list (usualL.map .int)]) (.ref (S++[l1]++[l2]).length) (.int (Int.fmod k 22))=some (.int v):=by rw [jcR hu];exact hv
  refine ⟨v,?_⟩
  rw [as1]
  exact (jeL d S (AV.ref 0) (AV.int k) _ (hadd) _ (hlen) _ (lt_f hk _) _ (qQ n22 _ _) _ (hsub) :)
noncomputable def zX (f k:Int):Int:=if f=2 then 3325256705+k else 8193*(2:Int)^(112:Int).toNat+3512*(2:Int)^(96:Int).toNat+1+k
theorem jhF (f k:Int) (d:Nat):j1 prg (d+1) "_law_host" [.int f,.int k] S=some (.int (zX f k),S):=by
 have p1:(0:Int)≤112∧(112:Int)≤200:=by decide
 have p2:(0:Int)≤96∧(96:Int)≤200:=by decide
 have q1:(8193:Int).natAbs < 2^64:=by decide
 have q2:(3512:Int).natAbs < 2^64:=by decide
 by_cases h:f=2
 ·rw [zX,if_pos h]
  exact (jcO d S (AV.int f) (AV.int k) _ (yD h S) _ (yL _ _ S) :)
 ·rw [zX,if_neg h]
  exact (jcO d S (AV.int f) (AV.int k) _ (kD h S) _ (jc4 p1 S) _ (vB q1 _ S) _ (jc4 p2 S) _ (vB q2 _ S) _ (yL _ _ S) _ (yL _ _ S) _ (yL _ _ S) :)
end
end Mine.Law
end
section
open PySem
namespace Mine.Law
noncomputable def tbl4:List (Int×Int):=[(8,0),(0,8),(13,14),(14,13),(15,16),(16,15),(17,18),(18,17)]
noncomputable def tbl6:List (Int×Int):=[(128,129),(129,128)]
noncomputable def yK (t:T6):Option T6:=
 if t.f=2∧t.p=1 then (j6 (Int.fdiv t.dp 256) tbl4).map fun a=>⟨t.f,t.p,t.d,t.sp,t.s,256*a+Int.fmod t.dp 256⟩
 else if t.f=10∧t.p=58 then (j6 (Int.fdiv t.dp 256) tbl6).map fun a=>⟨t.f,t.p,t.d,t.sp,t.s,256*a+Int.fmod t.dp 256⟩
 else some ⟨t.f,t.p,t.d,t.dp,t.s,t.sp⟩
noncomputable def optT:Option T6→AV
 | none=>.none
 | some t=>tV t
section
variable {S:St}
theorem gQ (o:AO) (X:List AO) (vs:List AV) (d:AO) (h:kT (pairUp vs) 0 [] 0=some d):jlF S.length (S++[o]) (vs,S++[o]++X)=some (.ref S.length,S++[d]++X):=by
 have h1:(S++[o]++X)[S.length]? = (S++[o])[S.length]?:=List.getElem?_append_left (by simp)
 have h2:(S++[o]++X).set S.length d=S++[d]++X:=by simp
 have h3:stays (some S.length) (S++[o]) (S++[o]++X)=true:=by simp only [stays,h1,decide_true]
 simp only [jlF,h3,if_true,h,Option.bind_some,h2]
noncomputable def d4:AO:=.dict 1 (tbl4.map fun e=>(.int e.1,.int e.2)) 8
noncomputable def d6:AO:=.dict 1 (tbl6.map fun e=>(.int e.1,.int e.2)) 2
theorem put4:kT (pairUp [.int 8,.int 0,.int 0,.int 8,.int 13,.int 14,.int 14,.int 13,.int 15,.int 16,.int 16,.int 15,.int 17,.int 18,.int 18,.int 17]) 0 [] 0=some d4:=rfl
theorem put6:kT (pairUp [.int 128,.int 129,.int 129,.int 128]) 0 [] 0=some d6:=rfl
noncomputable def dP (n:Nat):AO:=.dict 3 [(.tup [.int 2,.int 1],.ref (n+1)),(.tup [.int 10,.int 58],.ref (n+2))] 2
theorem putP (n:Nat):kT (pairUp [.tup [.int 2,.int 1],.ref (n+1),.tup [.int 10,.int 58],.ref (n+2)]) 0 [] 0=some (dP n):=rfl
theorem jr3 {S:St} {a o:AV} {v:Option Bool} (h:inV S a o=v):jO S .NotIn a o=v.map (!·):=by subst h;rfl
theorem jpC (k:Int) (l:List (Int×Int)):j6 (AV.int k) (l.map fun e=>(AV.int e.1,AV.int e.2))=(j6 k l).map AV.int:=nR (fun _ _ h=>AV.int.inj h) k l
theorem jaN (t:T6) (S:St):yE S (tV t)=some [.int t.f,.int t.p,.int t.s,.int t.sp,.int t.d,.int t.dp]:=rfl
theorem juB (n:Int) (S:St):jO S .Is (.int n) .none=some false:=rfl
theorem jfY (t:T6) (d:Nat):∃ ys,j1 prg (d+1) "_law_turned" [tV t] S=some (optT (yK t),S++ys):=by
 refine ⟨[dP S.length,d4,d6],?_⟩
 have n1:(S++[AO.dict 0 [] 0]).length=S.length+1:=by simp
 have n2:(S++[AO.dict 0 [] 0]++[d4]).length=S.length+2:=by simp
 have g1:=gQ (S:=S++[AO.dict 0 [] 0]) (.dict 0 [] 0) [] _ _ put4
 have g2:=gQ (S:=S++[AO.dict 0 [] 0]++[d4]) (.dict 0 [] 0) [] _ _ put6
 have g3:=gQ (S:=S) (.dict 0 [] 0) [d4,d6] _ _ (putP S.length)
 simp only [List.append_nil] at g1 g2
 have g1:=g1.trans (congrArg (fun n=>some (AV.ref n,S++[AO.dict 0 [] 0]++[d4])) n1)
 have as3:S++[AO.dict 0 [] 0]++[d4]++[d6]=S++[AO.dict 0 [] 0]++[d4,d6]:=by simp
 rw [as3] at g2
 have g2:=g2.trans (congrArg (fun n=>some (AV.ref n,S++[AO.dict 0 [] 0]++[d4,d6])) n2)
 have as4:S++[dP S.length]++[d4,d6]=S++[dP S.length,d4,d6]:=by simp
 rw [as4] at g3
 have k0:(S++[dP S.length,d4,d6])[S.length]? = some (dP S.length):=by simp
 have k1:(S++[dP S.length,d4,d6])[S.length+1]? = some d4:=by
  rw [List.getElem?_append_right (by lia)];simp
 have k2:(S++[dP S.length,d4,d6])[S.length+2]? = some d6:=by
  rw [List.getElem?_append_right (by lia)];simp
 have hP:isD 3 [(.tup [.int 2,.int 1],.ref (S.length+1)),(.tup [.int 10,.int 58],.ref (S.length+2))] (dP S.length):=⟨3,2,rfl,.inl rfl⟩
 have h4:isD 1 (tbl4.map fun e=>(AV.int e.1,AV.int e.2)) d4:=⟨1,8,rfl,.inl rfl⟩
 have h6:isD 1 (tbl6.map fun e=>(AV.int e.1,AV.int e.2)) d6:=⟨1,2,rfl,.inl rfl⟩
 have hin:=jr3 (in_of k0 hP (x:=.tup [.int t.f,.int t.p]) rfl (by decide))
 have hsub:=zP k0 hP (x:=.tup [.int t.f,.int t.p]) rfl (by decide)
 have n256:¬ ((256:Int)=0∨2^64≤(256:Int).natAbs):=by decide
 have m256:¬ ((256:Int)=0):=by decide
 have q256:(256:Int).natAbs < 2^64:=by decide
 have start:∀ {kn:Ev→St→Prop} {kr:AV→St→Prop},qB (j1 prg d) i_law_turned [some (tV t),none,none,none,none,none,none,none,none] S kn kr→qB (j1 prg d) (i_law_turned.drop 2) [some (tV t),some (.ref S.length),none,some (.int t.f),some (.int t.p),some (.int t.s),some (.int t.sp),some (.int t.d),some (.int t.dp)] (S++[dP S.length,d4,d6]) kn kr:=fun {kn kr} H=>by
  exact (H _ (g1) _ (g2) _ (g3) _ (jaN t _) :)
 by_cases c1:t.f=2∧t.p=1
 ·have hg:j6 (AV.tup [.int t.f,.int t.p]) [(AV.tup [.int 2,.int 1],AV.ref (S.length+1)),(.tup [.int 10,.int 58],.ref (S.length+2))]=some (.ref (S.length+1)):=by
   rw [c1.1,c1.2];rfl
  rw [hg] at hsub hin
  have hget:=jeZ k1 h4 (x:=.int (Int.fdiv t.dp 256)) rfl (by decide)
  rw [jpC] at hget
  rw [yK,if_pos c1]
  cases hv:j6 (Int.fdiv t.dp 256) tbl4 with
  | none=>
   rw [hv] at hget
   exact (start (zS d S (tV t)) _ (hin) _ (hsub) _ (kA (vL k1 h4)) _ (vM n256 _ _) _ (hget) _ (is_none _) :)
  | some v=>
   rw [hv] at hget
   exact (start (zS d S (tV t)) _ (hin) _ (hsub) _ (kA (vL k1 h4)) _ (vM n256 _ _) _ (hget) _ (juB _ _) _ (vB q256 _ _) _ (qQ m256 _ _) _ (yL _ _ _) :)
 ·by_cases c2:t.f=10∧t.p=58
  ·have hg:j6 (AV.tup [.int t.f,.int t.p]) [(AV.tup [.int 2,.int 1],AV.ref (S.length+1)),(.tup [.int 10,.int 58],.ref (S.length+2))]=some (.ref (S.length+2)):=by
    rw [c2.1,c2.2];rfl
   rw [hg] at hsub hin
   have hget:=jeZ k2 h6 (x:=.int (Int.fdiv t.dp 256)) rfl (by decide)
   rw [jpC] at hget
   rw [yK,if_neg c1,if_pos c2]
   cases hv:j6 (Int.fdiv t.dp 256) tbl6 with
   | none=>
    rw [hv] at hget
    exact (start (zS d S (tV t)) _ (hin) _ (hsub) _ (kA (vL k2 h6)) _ (vM n256 _ _) _ (hget) _ (is_none _) :)
   | some v=>
    rw [hv] at hget
    exact (start (zS d S (tV t)) _ (hin) _ (hsub) _ (kA (vL k2 h6)) _ (vM n256 _ _) _ (hget) _ (juB _ _) _ (vB q256 _ _) _ (qQ m256 _ _) _ (yL _ _ _) :)
  ·have hg:j6 (AV.tup [.int t.f,.int t.p]) [(AV.tup [.int 2,.int 1],AV.ref (S.length+1)),(.tup [.int 10,.int 58],.ref (S.length+2))]=none:=by
    have e1:¬ (AV.tup [.int 2,.int 1]=AV.tup [.int t.f,.int t.p]):=by
     simp only [AV.tup.injEq,List.cons.injEq,AV.int.injEq,and_true]
     exact fun q=>c1 ⟨q.1.symm,q.2.symm⟩
    have e2:¬ (AV.tup [.int 10,.int 58]=AV.tup [.int t.f,.int t.p]):=by
     simp only [AV.tup.injEq,List.cons.injEq,AV.int.injEq,and_true]
     exact fun q=>c2 ⟨q.1.symm,q.2.symm⟩
    simp only [j6,if_neg e1,if_neg e2]
   rw [hg] at hin
   rw [yK,if_neg c1,if_neg c2]
   exact (start (zS d S (tV t)) _ (hin) :)
theorem jiP (f p:Int) (d:Nat):j1 prg (d+1) "is_icmp" [.int f,.int p] S=some (.bool (decide (f=2∧p=1∨f=10∧p=58)),S):=by
 by_cases h1:f=2
 ·have h3:¬ f=10:=by rw [h1];decide
  by_cases h2:p=1
  ·rw [decide_eq_true (.inl ⟨h1,h2⟩)]
   exact (wH d S (AV.int f) (AV.int p) _ (yD h1 S) _ (yD h2 S) :)
  ·rw [decide_eq_false fun q=>q.elim (fun q=>h2 q.2) fun q=>h3 q.1]
   exact (wH d S (AV.int f) (AV.int p) _ (yD h1 S) _ (kD h2 S) _ (kD h3 S) :)
 ·by_cases h3:f=10
  ·by_cases h2:p=58
   ·rw [decide_eq_true (.inr ⟨h3,h2⟩)]
    exact (wH d S (AV.int f) (AV.int p) _ (kD h1 S) _ (yD h3 S) _ (yD h2 S) :)
   ·rw [decide_eq_false fun q=>q.elim (fun q=>h1 q.1) fun q=>h2 q.2]
    exact (wH d S (AV.int f) (AV.int p) _ (kD h1 S) _ (yD h3 S) _ (kD h2 S) :)
  ·rw [decide_eq_false fun q=>q.elim (fun q=>h1 q.1) fun q=>h3 q.1]
   exact (wH d S (AV.int f) (AV.int p) _ (kD h1 S) _ (kD h3 S) :)
noncomputable def flat (l:List (Int×Int)):List (Int×Int):=l.flatMap fun p=>[(p.1,p.2),(p.2,p.1)]
theorem nL (call:Callee) (f P:Option AV) (k:Int):∀ (l:List (Int×Int)) (e3 e4:Option AV),∃ e3' e4',
  loop (fun e S=>rB call kX e S) (.locs [3,4]) none (l.map fun p=>.tup [.int p.1,.int p.2]) [f,some (.int k),P,e3,e4] S=match j6 k (flat l) with
   | some v=>some (.rt (.int v) S)
   | none=>some (.nx [f,some (.int k),P,e3',e4'] S)
 | [],e3,e4=>⟨e3,e4,rfl⟩
 | (a,b)::l,e3,e4=>by
  refine xEE (nL call f P k l (some (.int a)) (some (.int b))) fun e3' e4' ih=>?_
  refine ⟨e3',e4',?_⟩
  show _=(match j6 k ((a,b)::(b,a)::flat l) with | some v=>some (Out.rt (.int v) S) | none=>some (Out.nx [f,some (.int k),P,e3',e4'] S))
  rw [j6]
  by_cases h1:a=k
  ·rw [if_pos h1]
   refine wY rfl ?_
   exact (blk call kX ((Ev.put [f,some (AV.int k),P,e3,e4] 3 (AV.int (a,b).fst)).put 4 (AV.int (a,b).snd)) S _ (yD h1.symm S) :)
  ·rw [if_neg h1,j6]
   have h1':¬ k=a:=fun e=>h1 e.symm
   by_cases h2:b=k
   ·rw [if_pos h2]
    refine wY rfl ?_
    exact (blk call kX ((Ev.put [f,some (AV.int k),P,e3,e4] 3 (AV.int (a,b).fst)).put 4 (AV.int (a,b).snd)) S _ (kD h1' S) _ (yD h2.symm S) :)
   ·rw [if_neg h2]
    have h2':¬ k=b:=fun e=>h2 e.symm
    refine jK rfl ?_ rfl ih
    exact (blk call kX ((Ev.put [f,some (AV.int k),P,e3,e4] 3 (AV.int (a,b).fst)).put 4 (AV.int (a,b).snd)) S _ (kD h1' S) _ (kD h2' S) :)
theorem joP (k:Int) (d:Nat):j1 prg (d+1) "answer_kind" [.int 2,.int k] S=some (.int ((j6 k tbl4).getD (-1)),S):=by
 refine xEE (nL (S:=S) (j1 prg d) (some (.int 2)) (some (.tup [.tup [.int 8,.int 0],.tup [.int 13,.int 14],.tup [.int 15,.int 16],.tup [.int 17,.int 18]])) k [(8,0),(13,14),(15,16),(17,18)] none none) fun _ _ e=>?_
 have hi:itemsOf S (.tup [.tup [.int 8,.int 0],.tup [.int 13,.int 14],.tup [.int 15,.int 16],.tup [.int 17,.int 18]])=some ([.tup [.int 8,.int 0],.tup [.int 13,.int 14],.tup [.int 15,.int 16],.tup [.int 17,.int 18]],none):=rfl
 have e:loop _ _ _ _ _ _=(match j6 k tbl4 with | some v=>some (Out.rt (.int v) S) | none=>some (Out.nx _ S)):=e
 cases hv:j6 k tbl4 with
 | some v=>
  rw [hv] at e
  exact (qL d S (AV.int 2) (AV.int k) _ (yD rfl S) _ (hi) _ (e) :)
 | none=>
  rw [hv] at e
  exact (qL d S (AV.int 2) (AV.int k) _ (yD rfl S) _ (hi) _ (e) :)
theorem jnW (k:Int) (d:Nat):j1 prg (d+1) "answer_kind" [.int 10,.int k] S=some (.int ((j6 k tbl6).getD (-1)),S):=by
 refine xEE (nL (S:=S) (j1 prg d) (some (.int 10)) (some (.tup [.tup [.int 128,.int 129]])) k [(128,129)] none none) fun _ _ e=>?_
 have hi:itemsOf S (.tup [.tup [.int 128,.int 129]])=some ([.tup [.int 128,.int 129]],none):=rfl
 have e:loop _ _ _ _ _ _=(match j6 k tbl6 with | some v=>some (Out.rt (.int v) S) | none=>some (Out.nx _ S)):=e
 cases hv:j6 k tbl6 with
 | some v=>
  rw [hv] at e
  exact (qL d S (AV.int 10) (AV.int k) _ (kD (by decide) S) _ (hi) _ (e) :)
 | none=>
  rw [hv] at e
  exact (qL d S (AV.int 10) (AV.int k) _ (kD (by decide) S) _ (hi) _ (e) :)
noncomputable def jcW:List Int:=[8,0,13,14,15,16,17,18,11]
noncomputable def jcX:List Int:=[128,129,135,1]
inductive Shape:T6→Prop
 | plain (f p s sp d dp:Int):¬ (f=2∧p=1)→¬ (f=10∧p=58)→Shape ⟨f,p,s,sp,d,dp⟩
 | ic4 (k j s sp d:Int):k∈jcW→j∈[(0:Int),1,2]→Shape ⟨2,1,s,sp,d,256*k+j⟩
 | ic6 (k j s sp d:Int):k∈jcX→j∈[(0:Int),1,2]→Shape ⟨10,58,s,sp,d,256*k+j⟩
theorem jt3:∀ k∈jcW,∀ j∈[(0:Int),1,2],Int.fdiv (256*k+j) ((2:Int)^(8:Int).toNat)=k∧Int.fdiv (256*k+j) 256=k∧Builtin.bitAnd (256*k+j) 255=j∧Int.fmod (256*k+j) 256=j∧(∀ a∈j6 k tbl4,0≤a∧a∈jcW):=by decide +kernel
theorem juD:∀ k∈jcX,∀ j∈[(0:Int),1,2],Int.fdiv (256*k+j) ((2:Int)^(8:Int).toNat)=k∧Int.fdiv (256*k+j) 256=k∧Builtin.bitAnd (256*k+j) 255=j∧Int.fmod (256*k+j) 256=j∧(∀ a∈j6 k tbl6,0≤a∧a∈jcX):=by decide +kernel
theorem jg2 {t:T6} (h:Shape t) (d:Nat):j1 prg (d+2) "invert" [tV t] S=some (optT (yK t),S):=by
 have sh:(0:Int)≤8∧(8:Int)≤64:=by decide
 have q256:(256:Int).natAbs < 2^64:=by decide
 cases h with
 | plain f p s sp dd dp h1 h2=>
  have hn:decide (f=2∧p=1∨f=10∧p=58)=false:=by
   rw [decide_eq_false_iff_not];exact fun q=>q.elim h1 h2
  have ht:yK ⟨f,p,s,sp,dd,dp⟩=some ⟨f,p,dd,dp,s,sp⟩:=by simp only [yK,if_neg h1,if_neg h2]
  rw [ht]
  have hi:=jiP (S:=S) f p d
  rw [hn] at hi
  exact (xU (d+1) S (tV { f:=f,p:=p,s:=s,sp:=sp,d:=dd,dp:=dp }) _ (jaN _ S) _ (hi) :)
 | ic4 k j s sp dd hk hj=>
  refine nQ (jt3 k hk j hj) fun f1 f2 f3 f4 f5=>?_
  have hi:∀ S:St,j1 prg (d+1) "is_icmp" [.int 2,.int 1] S=some (.bool true,S):=fun S=>by rw [jiP];rfl
  have ht:yK ⟨2,1,s,sp,dd,256*k+j⟩=(j6 k tbl4).map fun a=>⟨2,1,dd,sp,s,256*a+j⟩:=by
   show (j6 (Int.fdiv (256*k+j) 256) tbl4).map _=_
   rw [f2,f4]
  rw [ht]
  have hsh:=jp0 sh (256*k+j) S
  rw [f1] at hsh
  have han:=joP (S:=S) k d
  cases hv:j6 k tbl4 with
  | none=>
   rw [hv] at han
   exact (xU (d+1) S (tV { f:=2,p:=1,s:=s,sp:=sp,d:=dd,dp:=256*k+j }) _ (jaN _ S) _ (hi S) _ (hsh) _ (han) _ (lt_t (a:=-1) (by decide) S) :)
  | some a=>
   have ha:=f5 a (by rw [hv];rfl)
   have hand:=joV (256*k+j) 255 S
   rw [f3] at hand
   have hmul:=jl7 q256 a S
   rw [Int.mul_comm a 256] at hmul
   rw [hv] at han
   exact (xU (d+1) S (tV { f:=2,p:=1,s:=s,sp:=sp,d:=dd,dp:=256*k+j }) _ (jaN _ S) _ (hi S) _ (hsh) _ (han) _ (lt_f (a:=a) (Int.not_lt.2 ha.1) S) _ (hmul) _ (hand) _ (yL _ _ S) :)
 | ic6 k j s sp dd hk hj=>
  refine nQ (juD k hk j hj) fun f1 f2 f3 f4 f5=>?_
  have hi:∀ S:St,j1 prg (d+1) "is_icmp" [.int 10,.int 58] S=some (.bool true,S):=fun S=>by rw [jiP];rfl
  have ht:yK ⟨10,58,s,sp,dd,256*k+j⟩=(j6 k tbl6).map fun a=>⟨10,58,dd,sp,s,256*a+j⟩:=by
   show (j6 (Int.fdiv (256*k+j) 256) tbl6).map _=_
   rw [f2,f4]
  rw [ht]
  have hsh:=jp0 sh (256*k+j) S
  rw [f1] at hsh
  have han:=jnW (S:=S) k d
  cases hv:j6 k tbl6 with
  | none=>
   rw [hv] at han
   exact (xU (d+1) S (tV { f:=10,p:=58,s:=s,sp:=sp,d:=dd,dp:=256*k+j }) _ (jaN _ S) _ (hi S) _ (hsh) _ (han) _ (lt_t (a:=-1) (by decide) S) :)
  | some a=>
   have ha:=f5 a (by rw [hv];rfl)
   have hand:=joV (256*k+j) 255 S
   rw [f3] at hand
   have hmul:=jl7 q256 a S
   rw [Int.mul_comm a 256] at hmul
   rw [hv] at han
   exact (xU (d+1) S (tV { f:=10,p:=58,s:=s,sp:=sp,d:=dd,dp:=256*k+j }) _ (jaN _ S) _ (hi S) _ (hsh) _ (han) _ (lt_f (a:=a) (Int.not_lt.2 ha.1) S) _ (hmul) _ (hand) _ (yL _ _ S) :)
theorem Shape.turned {t t':T6} (h:Shape t) (ht:yK t=some t'):Shape t'∧yK t'=some t∧∀ s d,Shape ⟨t'.f,t'.p,s,t'.sp,d,t'.dp⟩:=by
 cases h with
 | plain f p s sp dd dp h1 h2=>
  have e:yK ⟨f,p,s,sp,dd,dp⟩=some ⟨f,p,dd,dp,s,sp⟩:=by simp only [yK,if_neg h1,if_neg h2]
  rw [e] at ht
  have:=Option.some.inj ht
  subst this
  exact ⟨.plain _ _ _ _ _ _ h1 h2,by simp only [yK,if_neg h1,if_neg h2],fun _ _=>.plain _ _ _ _ _ _ h1 h2⟩
 | ic4 k j s sp dd hk hj=>
  refine nQ (jt3 k hk j hj) fun f1 f2 f3 f4 f5=>?_
  have e:yK ⟨2,1,s,sp,dd,256*k+j⟩=(j6 k tbl4).map fun a=>⟨2,1,dd,sp,s,256*a+j⟩:=by
   show (j6 (Int.fdiv (256*k+j) 256) tbl4).map _=_
   rw [f2,f4]
  rw [e] at ht
  refine xEA (Option.map_eq_some_iff.1 ht) fun a ha q2q=>?_;obtain rfl:=q2q
  have ha4:=(f5 a ha).2
  refine nQ (jt3 a ha4 j hj) fun g1 g2 g3 g4 g5=>?_
  have back:j6 a tbl4=some k:=(by decide +kernel:∀ k∈jcW,∀ a∈j6 k tbl4,j6 a tbl4=some k) k hk a ha
  refine ⟨.ic4 _ _ _ _ _ ha4 hj,?_,fun _ _=>.ic4 _ _ _ _ _ ha4 hj⟩
  show (j6 (Int.fdiv (256*a+j) 256) tbl4).map _=_
  rw [g2,back]
  simp only [Option.map_some,g4]
 | ic6 k j s sp dd hk hj=>
  refine nQ (juD k hk j hj) fun f1 f2 f3 f4 f5=>?_
  have e:yK ⟨10,58,s,sp,dd,256*k+j⟩=(j6 k tbl6).map fun a=>⟨10,58,dd,sp,s,256*a+j⟩:=by
   show (j6 (Int.fdiv (256*k+j) 256) tbl6).map _=_
   rw [f2,f4]
  rw [e] at ht
  refine xEA (Option.map_eq_some_iff.1 ht) fun a ha q2q=>?_;obtain rfl:=q2q
  have ha6:=(f5 a ha).2
  refine nQ (juD a ha6 j hj) fun g1 g2 g3 g4 g5=>?_
  have back:j6 a tbl6=some k:=(by decide +kernel:∀ k∈jcX,∀ a∈j6 k tbl6,j6 a tbl6=some k) k hk a ha
  refine ⟨.ic6 _ _ _ _ _ ha6 hj,?_,fun _ _=>.ic6 _ _ _ _ _ ha6 hj⟩
  show (j6 (Int.fdiv (256*a+j) 256) tbl6).map _=_
  rw [g2,back]
  simp only [Option.map_some,g4]
end
end Mine.Law
end
section
open PySem
namespace Mine.Law
inductive Sets (call:Callee) (n:Nat) (env:Ev):List AO→List IS→List (Str×AV)→List AO→Prop
 | nil (X:List AO):Sets call n env X [] [] X
 | cons {X X1 X2:List AO} {a:Str} {e:IE} {v:AV} {st:List IS} {l:List (Str×AV)}:(∀ (S:St) (o:AO),S.length=n→rE call e env (S++o::X)=some (v,S++o::X1))→Sets call n env X1 st l X2→Sets call n env X (.set (.attr (.loc 0) a) e::st) ((a,v)::l) X2
theorem Sets.now {call:Callee} {n:Nat} {env:Ev} {X X2:List AO} {a:Str} {e:IE} {v:AV} {st:List IS} {l:List (Str×AV)} (h:∀ S,rE call e env S=some (v,S)) (r:Sets call n env X st l X2):Sets call n env X (.set (.attr (.loc 0) a) e::st) ((a,v)::l) X2:=.cons (fun _ _ _=>h _) r
theorem jtZ {call:Callee} {n:Nat} {env:Ev} {S:St} (hn:S.length=n) (h0:env.at 0=some (.ref n)) {c:Str} {X X':List AO} {st:List IS} {l:List (Str×AV)} (h:Sets call n env X st l X') :
  ∀ (fs:List (Str×AV)),fs.length+l.length≤500→rB call st env (S ++ .inst c fs::X)=some (.nx env (S ++ .inst c (l.foldl (fun fs p=>jA p.1 p.2 fs) fs)::X')):=by
 induction h with
 | nil X=>exact fun fs _=>rfl
 | @cons X X1 X2 a e v st l he hs ih=>
  intro fs hl
  have hself:(S++AO.inst c fs::X1)[n]? = some (.inst c fs):=by
   rw [← hn,List.getElem?_append_right (Nat.le_refl _),Nat.sub_self];rfl
  have hset:=jdK hself (Nat.le_trans (Nat.le_add_right _ _) hl) a v
  have hset2:(S++AO.inst c fs::X1).set n (.inst c (jA a v fs))=S ++ .inst c (jA a v fs)::X1:=by
   rw [← hn,List.set_append_right _ _ (Nat.le_refl _),Nat.sub_self];rfl
  rw [hset2] at hset
  have h1:rE call (.loc 0) env (S++AO.inst c fs::X1)=some (.ref n,S++AO.inst c fs::X1):=mpp h0 rfl
  exact bnd (bnd (he S _ hn) (mpp (bnd h1 (mpp hset rfl)) rfl)) (ih (jA a v fs) (Nat.le_trans (Nat.add_le_add_right kO _) (Nat.le_trans (Nat.le_of_eq (Nat.succ_add_eq_add_succ _ _)) hl)))
theorem jdE:∀ (l fs:List (Str×AV)),((fs++l).map (·.1)).Nodup→l.foldl (fun fs p=>jA p.1 p.2 fs) fs=fs++l
 | [],fs,_=>by simp
 | (a,v)::l,fs,h=>by
  have h1:a ∉ fs.map (·.1):=fun q=>by
   rw [List.map_append,List.nodup_append] at h
   exact h.2.2 a q a (by simp) rfl
  rw [List.foldl_cons,wC h1,jdE l _ (by simpa using h)]
  simp
theorem jcV {r:Row} (hr:zN r.x prg=some r) (hc:r.isC=true) {as:List AV} (ho:r.okN (as.length+1)=true) {d:Nat} {S:St} (h0:(r.env (.ref S.length::as)).at 0=some (.ref S.length)) {X':List AO} {l:List (Str×AV)} (hN:qK (l.map (·.1))=true) (hl:Nat.ble l.length 500=true) (h:Sets (j1 prg d) S.length (r.env (.ref S.length::as)) [] r.is l X') :
  j1 prg (d+1) r.x as S=some (.ref S.length,S ++ .inst r.x l::X'):=by
 have e:=jtZ (S:=S) (c:=r.x) rfl h0 h [] (by rw [List.length_nil,Nat.zero_add];exact Nat.le_of_ble_eq_true hl)
 rw [jdE l [] (y4 hN)] at e
 refine bnd hr ?_
 rw [hc,ho]
 exact bnd e rfl
theorem vG {call:Callee} {env:Ev} {n:Nat} {X:List AO} (S:St) (o:AO) (hn:S.length=n):rE call (.dct []) env (S++o::X)=some (.ref (n+(X.length+1)),S++o::(X++[.dict 0 [] 0])):=by
 have e:jlF (S++o::X).length (S++o::X++[.dict 0 [] 0]) ([],S++o::X++[.dict 0 [] 0])=some (.ref (n+(X.length+1)),S++o::(X++[.dict 0 [] 0])):=by simp [jlF,stays,pairUp,kT,hn]
 exact bnd rfl e
theorem jkC {call:Callee} {env:Ev} {n:Nat} {X:List AO} (S:St) (o:AO) (hn:S.length=n):rE call (.lst []) env (S++o::X)=some (.ref (n+(X.length+1)),S++o::(X++[.list []])):=by
 show some (AV.ref (S++o::X).length,S++o::X++[.list []])=_
 rw [List.append_assoc,List.length_append,hn];rfl
section
variable {S:St}
noncomputable def js8 (n o r z:AV):AO:=.inst "Talk" [("number",n),("original",o),("reply",r),("zone",z),("until",.int 0),("since",.int 0),("mark",.int 0),("status",.int 0),("state",.int 0),("sides",.none),("master",.int 0)]
theorem ju9 (n o r z:AV) (d:Nat):j1 prg (d+1) "Talk" [n,o,r,z] S=some (.ref S.length,S++[js8 n o r z]):=
 jcV (r:=jsL) (pr (k:=80) rfl) rfl rfl rfl rfl rfl (.now (fun _=>rfl) <| .now (fun _=>rfl) <| .now (fun _=>rfl) <| .now (fun _=>rfl) <| .now (fun _=>rfl) <| .now (fun _=>rfl) <| .now (fun _=>rfl) <| .now (fun _=>rfl) <| .now (fun _=>rfl) <| .now (fun _=>rfl) <| .now (fun _=>rfl) <| .nil _)
theorem jo0 (m t z u:AV) (d:Nat):j1 prg (d+1) "Expect" [m,t,z,u] S=some (.ref S.length,S++[.inst "Expect" [("master",m),("t",t),("zone",z),("until",u)]]):=
 jcV (r:=jkT) (pr (k:=83) rfl) rfl rfl rfl rfl rfl (.now (fun _=>rfl) <| .now (fun _=>rfl) <| .now (fun _=>rfl) <| .now (fun _=>rfl) <| .nil _)
noncomputable def juN (n:Nat) (p f now:AV):List (Str×AV):=[("packet",p),("now",now),("hook",.str "input"),("talk",.none),("state",.int 1),("is_reply",.int 0),("talks",.none),("sets",.ref (n+1)),("objects",.ref (n+2)),("fields",f),("readers",.ref (n+3)),("doers",.ref (n+4)),("ops",.ref (n+5)),("tools",.ref (n+6)),("order",.str "little"),("log",.ref (n+7)),("replies",.ref (n+8)),("steps",.none),("homes",.ref (n+9))]
noncomputable def xM:List AO:=[.dict 0 [] 0,.dict 0 [] 0,.dict 0 [] 0,.dict 0 [] 0,.dict 0 [] 0,.dict 0 [] 0,.list [],.list [],.dict 0 [] 0]
theorem jrC (p f now:AV) (d:Nat):j1 prg (d+1) "Scene" [p,f,now] S=some (.ref S.length,S ++ .inst "Scene" (juN S.length p f now)::xM):=
 jcV (r:=joU) (as:=[p,f,now]) (pr (k:=82) rfl) rfl rfl rfl rfl rfl (.now (fun _=>rfl) <| .now (fun _=>rfl) <| .now (fun _=>rfl) <| .now (fun _=>rfl) <| .now (fun _=>rfl) <| .now (fun _=>rfl) <| .now (fun _=>rfl) <| .cons vG <| .cons vG <| .now (fun _=>rfl) <| .cons vG <| .cons vG <| .cons vG <| .cons vG <| .now (fun _=>rfl) <| .cons jkC <| .cons jkC <| .now (fun _=>rfl) <| .cons vG <| .nil _)
noncomputable def bookX:List AO:=[.dict 0 [] 0,.dict 0 [] 0,.dict 0 [] 0,.list [],.dict 0 [] 0]
end
end Mine.Law
end
section
open PySem
namespace Mine.Law
section
variable {S:St}
theorem juM {k:Nat} {xs:List AV} (h:S[k]? = some (.list xs)):yE S (.ref k)=some xs:=qJ h
theorem uR (bs:List Int) (hb:bs.all jj6=true) (hl:bs.length≤1000) (n:Int) (d:Nat) :
  j1 prg (d+1) "_law_digits" [.int n,.ref S.length] (S++[.list (bs.map .int)])=some (.ref (S.length+1),S++[.list (bs.map .int)]++[.list ((mM n bs).map .int)]):=by
 have h:=jqG (S:=S++[AO.list (bs.map .int)]) (k:=S.length) (by simp) hb hl n d
 have e:(S++[AO.list (bs.map .int)]).length=S.length+1:=by simp
 rw [e] at h
 exact h
theorem jaE (a:AO) (xs:List AV):yE (S++[a]++[.list xs]) (.ref (S.length+1))=some xs:=juM (by rw [List.getElem?_append_right (by simp)];simp)
theorem m6 (a b:AV) (S:St):yE S (.tup [a,b])=some [a,b]:=rfl
theorem pick {l:List Int} {i:Int} (h0:0≤i) (h1:i < l.length) (h2:Nat.ble l.length 1000=true):∃ v,v∈l∧∀ T,k9 T (.tup (l.map .int)) (.int i)=some (.int v):=
 xEA (jdC h0 h1 (Nat.le_of_ble_eq_true h2)) fun v hv e=>⟨v,hv,fun _=>e⟩
theorem jcC {n:Int} {m:Nat} (h0:0≤n) (h1:n < m):n∈(List.range m).map Int.ofNat:=List.mem_map.2 ⟨n.toNat,List.mem_range.2 ((Int.toNat_lt h0).2 h1),Int.toNat_of_nonneg h0⟩
theorem ltS {P:Nat→Prop} {m:Nat} (h:∀ n,n < m→P n) (a:P m) (n:Nat) (q:n < m+1):P n:=(Nat.lt_succ_iff_lt_or_eq.1 q).elim (h n) fun e=>e▸a
theorem six {P:Int→Prop} {s:Int} (h0:0≤s) (h1:s < 6) (a0:P 0) (a1:P 1) (a2:P 2) (a3:P 3) (a4:P 4) (a5:P 5):P s:=by
 have h:∀ n:Nat,n < 6→P n:=ltS (ltS (ltS (ltS (ltS (ltS (fun n q=>absurd q (Nat.not_lt_zero n)) a0) a1) a2) a3) a4) a5
 exact Int.toNat_of_nonneg h0▸h s.toNat ((Int.toNat_lt h0).2 h1)
theorem bit01 {s:Int} (h0:0≤s) (h1:s < 2):s=0∨s=1:=by lia
noncomputable abbrev envT (which sort x1 x2 sp dp f p:Int):Ev:=[some (.int which),some (.int sort),some (.int x1),some (.int x2),some (.int sp),some (.int dp),some (.int f),some (.int p),some (.int (zX f x1)),some (.int (zX f x2)),none]
noncomputable def jnD:AV:=.tup [.tup [.int 2,.int 17],.tup [.int 2,.int 1],.tup [.int 10,.int 58],.tup [.int 2,.int 47],.tup [.int 10,.int 17],.tup [.int 2,.int 6]]
noncomputable def kindsT:AV:=.tup [.tup [.int 8,.int 0,.int 13,.int 16,.int 17,.int 11],.tup [.int 128,.int 129,.int 128,.int 129,.int 135,.int 1]]
noncomputable def TupR (call:Callee) (S:St) (which x1 x2 sp dp sort:Int):Prop:=∃ f p t,k9 S jnD (.int sort)=some (.tup [.int f,.int p])∧Shape t∧∀ {kn:Ev→St→Prop} {kr:AV→St→Prop},qB call (i_law_tuple.drop 3) (envT which sort x1 x2 sp dp f p) S kn kr→kr (tV t) S
section
variable {call:Callee} {which x1 x2 sp dp sort:Int}
theorem jaO (f p:Int) (h:k9 S jnD (.int sort)=some (.tup [.int f,.int p])) (q1:¬ (f=2∧p=1)) (q2:¬ (f=10∧p=58)) (h1:¬ p=47) (h2:jO S .In (.int p) (.tup [.int 1,.int 58])=some false):TupR call S which x1 x2 sp dp sort:=
 ⟨f,p,⟨f,p,zX f x1,50+sp,zX f x2,50+dp⟩,h,.plain _ _ _ _ _ _ q1 q2,fun H=>(H _ (kD h1 S) _ h2 _ (yL _ _ S) _ (yL _ _ S) :)⟩
theorem jmH (f p k:Int) (v:AV) (h:k9 S jnD (.int sort)=some (.tup [.int f,.int p])) (hs:Shape ⟨f,p,zX f x1,7+sp,zX f x2,256*k+sp⟩) (h1:¬ p=47) (h2:jO S .In (.int p) (.tup [.int 1,.int 58])=some true) (h3:k9 S kindsT (.int (sort - 1))=some v) (h4:k9 S v (.int dp)=some (.int k)):TupR call S which x1 x2 sp dp sort:=
 ⟨f,p,_,h,hs,fun H=>(H _ (kD h1 S) _ h2 _ (jwN _ _ S) _ h3 _ h4 _ (yL _ _ S) _ (vB (by decide) _ S) _ (yL _ _ S) :)⟩
theorem jx9 (s0:0≤sort) (s1:sort < 6) (b0:0≤sp) (b1:sp < 3) (c0:0≤dp) (c1:dp < 6):TupR call S which x1 x2 sp dp sort:=
 six (P:=fun sort=>TupR call S which x1 x2 sp dp sort) s0 s1
  (jaO 2 17 rfl (by decide) (by decide) (by decide) rfl)
  (xEA (pick (l:=[8,0,13,16,17,11]) c0 c1 rfl) fun k hk e=>jmH 2 1 k _ rfl (.ic4 k sp _ _ _ ((by decide:∀ k∈[8,0,13,16,17,11],k∈jcW) k hk) (jcC b0 b1)) (by decide) rfl rfl (e S))
  (xEA (pick (l:=[128,129,128,129,135,1]) c0 c1 rfl) fun k hk e=>jmH 10 58 k _ rfl (.ic6 k sp _ _ _ ((by decide:∀ k∈[128,129,128,129,135,1],k∈jcX) k hk) (jcC b0 b1)) (by decide) rfl rfl (e S))
  ⟨2,47,⟨2,47,zX 2 x1,0,zX 2 x2,0⟩,rfl,.plain _ _ _ _ _ _ (by decide) (by decide),fun H=>(H _ (yD (a:=47) rfl S) :)⟩
  (jaO 10 17 rfl (by decide) (by decide) (by decide) rfl)
  (jaO 2 6 rfl (by decide) (by decide) (by decide) rfl)
end
theorem jsR (which:Int) (d:Nat):∃ t ys,Shape t∧j1 prg (d+2) "_law_tuple" [.int which] S=some (tV t,S++ys):=
 xA (jH which (b:=6) (by decide)) fun a1 a2=>xA (jH (Int.fdiv (Int.fdiv (Int.fdiv which 6) 3) 3) (b:=3) (by decide)) fun b1 b2=>xA (jH (Int.fdiv (Int.fdiv (Int.fdiv (Int.fdiv which 6) 3) 3) 3) (b:=6) (by decide)) fun c1 c2=>
 vQ (jx9 (S:=S++[AO.list ([6,3,3,3,6].map .int)]++[AO.list ((mM which [6,3,3,3,6]).map .int)]) (call:=j1 prg (d+1)) (which:=which) (x1:=Int.fmod (Int.fdiv which 6) 3) (x2:=Int.fmod (Int.fdiv (Int.fdiv which 6) 3) 3) a1 a2 b1 b2 c1 c2) fun f p t h1 hs h2=>
 ⟨t,_,hs,(h2 (jlB (d+1) S (AV.int which) _ (uR (S:=S) [6,3,3,3,6] (by decide) (by decide) which d) _ (jaE _ _) _ h1 _ (m6 _ _ _) _ (jhF _ _ _) _ (jhF _ _ _) _ (m6 _ _ _)) :).trans (congrArg (fun T=>some (tV t,T)) (List.append_assoc ..))⟩
end
end Mine.Law
end
section
open PySem
namespace Mine.Law
noncomputable def Tn (t:T6):Prop:=Shape t∧(yK t).isSome=true
theorem jnR (t:T6) (s d:Int):(yK ⟨t.f,t.p,s,t.sp,d,t.dp⟩).isSome=(yK t).isSome:=by
 delta yK
 by_cases h1:t.f=2∧t.p=1
 ·rw [if_pos h1,if_pos h1,Option.isSome_map,Option.isSome_map]
 ·rw [if_neg h1,if_neg h1]
  by_cases h2:t.f=10∧t.p=58
  ·rw [if_pos h2,if_pos h2,Option.isSome_map,Option.isSome_map]
  ·rw [if_neg h2,if_neg h2];rfl
theorem Shape.tn {t t':T6} (h:Shape t) (ht:yK t=some t'):Tn t∧yK t'=some t∧∀ s d,Tn ⟨t'.f,t'.p,s,t'.sp,d,t'.dp⟩:=by
 refine xAA (h.turned ht) fun h1 h2 h3=>?_
 exact ⟨⟨h,by rw [ht];rfl⟩,h2,fun s d=>⟨h3 s d,by rw [jnR,h2];rfl⟩⟩
noncomputable def xF (b:B) (x:R) (now:Int):B:={ b with tks:=b.tks++[x],scn:=b.scn++[now]}
noncomputable def ja1 (w:W) (x:R):W:={ w with rws:=w.rws++[x]}
theorem jdR {α:Type} {l:List α} {x y:α} {i:Nat} (h:(l++[x])[i]? = some y):l[i]? = some y∨(i=l.length∧y=x):=by
 by_cases q:i < l.length
 ·exact .inl ((List.getElem?_append_left q).symm.trans h)
 ·have q:=Nat.le_of_not_lt q
  replace h:=(List.getElem?_append_right q).symm.trans h
  have z:i - l.length=0:=Nat.lt_one_iff.1 (j5 h)
  rw [z] at h
  exact .inr ⟨Nat.le_antisymm (Nat.le_of_sub_eq_zero z) q,(Option.some.inj h).symm⟩
theorem z9 {α:Type} {l:List α} {x:α} {i:Nat} (h:l[i]? = some x) {m:List α}:(l++m)[i]? = some x:=(List.getElem?_append_left (j5 h)).trans h
theorem vF {α:Type} (l:List α) (x:α):(l++[x])[l.length]? = some x:=by rw [List.getElem?_append_right (Nat.le_refl _),Nat.sub_self];rfl
theorem yW {α:Type} (l:List α) (x:α):(l++[x]).length=l.length+1:=List.length_append
theorem n3 {α:Type} {l m:List α} {i:Nat} (h:i < l.length):i < (l++m).length:=Nat.lt_of_lt_of_le h (Nat.le_trans (Nat.le_add_right _ _) (Nat.le_of_eq List.length_append.symm))
theorem jc7 {α:Type} {l:List α} {x:α} {i:Nat} (h:i < (l++[x]).length) (n:i≠l.length):i < l.length:=Nat.lt_of_le_of_ne (Nat.le_of_lt_succ (Nat.lt_of_lt_of_eq h (yW l x))) n
theorem jnN {rws:List R} {l:List Nat} (h:∀ i∈l,i < rws.length) (x:R):tabOf (rws++[x]) l=tabOf rws l:=by
 unfold tabOf
 induction l with
 | nil=>rfl
 | cons j l ih=>
  rw [List.flatMap_cons,List.flatMap_cons,ih fun i hi=>h i (List.mem_cons_of_mem _ hi)]
  congr 1
  unfold jcY
  rw [List.getElem?_append_left (h j List.mem_cons_self)]
theorem jtG (i:Nat) (x:R):(jjO i x).length≤2:=by
 have h1:=kO (k:=(x.zone,x.b)) (v:=(i,(1:Int))) (l:=jA (x.zone,x.a) (i,(0:Int)) [])
 have h2:=kO (k:=(x.zone,x.a)) (v:=(i,(0:Int))) (l:=([]:List Ent))
 simp only [List.length_nil] at h2
 unfold jjO
 lia
theorem jgF (rws:List R):∀ l:List Nat,(tabOf rws l).length≤2*l.length
 | []=>by simp [tabOf]
 | j::l=>by
  have ih:=jgF rws l
  unfold tabOf at ih ⊢
  rw [List.flatMap_cons,List.length_append,List.length_cons]
  have:(jcY rws j).length≤2:=by
   unfold jcY
   cases rws[j]? with
   | none=>simp
   | some x=>exact jtG j x
  lia
section
variable {b:B} {w:W}
theorem Cpl.tab54 (C:Cpl b w) (g:GoodW w):b.tab.length≤54:=by
 rw [C.tab]
 have h1:=jgF w.rws w.wl
 have h2:=g.wln
 lia
theorem Cpl.push (C:Cpl b w) (g:GoodW w) {x:R} (hx:x.st∈okL) (now:Int):Cpl (xF b x now) (ja1 w x):=by
 refine { rows:=by simp only [xF,ja1,C.rows],live:=C.live,fl:=C.fl,hung:=C.hung,tab:=?_,tabN:=C.tabN,wlN:=C.wlN,ok:=fun i y hy=>?_,on:=fun i y hy hi=>?_,scn:=by simp only [xF,List.length_append,C.scn,List.length_cons,List.length_nil]}
 ·simp only [xF,ja1]
  rw [jnN g.wl];exact C.tab
 ·rcases jdR hy with q | ⟨_,q⟩
  ·exact C.ok i y q
  ·rw [q];exact hx
 ·rcases jdR hy with q | ⟨q,_⟩
  ·exact C.on i y q hi
  ·exact absurd (g.wl i hi) (by lia)
theorem GoodW.push (g:GoodW w) (hl:w.rws.length < 27) (x:R):GoodW (ja1 w x):=
 { g with wl:=fun i hi=>n3 (g.wl i hi),few:=Nat.le_trans (Nat.le_of_eq (yW _ _)) hl }
end
section
variable {r:Rl→Nat} {c:Cs} {b:B} {w:W} {S:St}
theorem ja5 {b':B} {w':W} {x:Rl} {a a':Nat} (h:∀ y,al b w y→r y≠a') (ne:a≠a') (hal:∀ y,y≠x→al b' w' y→al b w y) (y:Rl) (hy:al b' w' y):upd r x a y≠a':=by
 by_cases e:y=x
 ·exact fun q=>ne ((if_pos e).symm.trans q)
 ·exact fun q=>h y (hal y e hy) ((if_neg e).symm.trans q)
theorem Mv.grow {b1 b2:B} {w1 w2:W} {r1:Rl→Nat} {S1:St} (M:Mv b w r S b1 w1 r1 S1) (x:Rl) (hx:¬ al b1 w1 x) {a:Nat} (ha:S.length≤a) (hal:∀ y,y≠x→al b2 w2 y→al b1 w1 y) (hb:∀ y,al b1 w1 y→al b2 w2 y):Mv b w r S b2 w2 (upd r1 x a) S1:=by
 refine ⟨fun y h=>hb y (M.al_ y h),fun y h s=>(zB (x:=x) (y:=y) a fun e=>hx (e▸M.al_ y h)).trans (M.keep y h s),fun y h=>?_,M.len,M.fr⟩
 by_cases e:y=x
 ·exact .inr (Nat.le_trans ha (Nat.le_of_eq (if_pos e).symm))
 ·exact (M.new y (hal y e h)).elim (fun q=>.inl ⟨q.1,(zB a e).trans q.2⟩) fun q=>.inr (Nat.le_trans q (Nat.le_of_eq (zB a e).symm))
theorem jtF {f g:Nat→Nat} {l:List Nat} {o:AO} (h:∀ i∈l,g i=f i) (q:isD 1 (tkE f l) o):isD 1 (tkE g l) o:=(show tkE g l=tkE f l from List.map_congr_left fun i hi=>congrArg (fun n=>(AV.int (num i),AV.ref n)) (h i hi))▸q
theorem jgQ {α:Type} {l:List α} {x:α} {f g:Nat→Nat} {a:Nat} (h:∀ i,i < l.length→g i=f i) (e:g l.length=a):((List.range l.length).map fun i=>AV.ref (f i))++[.ref a]=(List.range (l++[x]).length).map fun i=>AV.ref (g i):=by
 rw [yW,List.range_succ,List.map_append]
 exact congr (congrArg _ (List.map_congr_left fun i hi=>congrArg AV.ref (h i (List.mem_range.1 hi)).symm)) (congrArg (fun n=>[AV.ref n]) e.symm)
theorem Lay.addTalk (L:Lay r c b w S) (hn:b.scn.length≤b.tks.length) (hl:b.tks.length < 27) {x:R} {a:Nat} (ha:∀ y,al b w y→r y≠a) (h:S[a]? = some (kJ b.tks.length x)) (hal:∀ y,y≠.talk b.tks.length→al { b with tks:=b.tks++[x]} w y→al b w y) :
  Lay (upd r (.talk b.tks.length) a) c { b with tks:=b.tks++[x]} w S:=by
 have ne:∀ {i},i < b.tks.length→upd r (.talk b.tks.length) a (.talk i)=r (.talk i):=fun h=>zB a fun e=>Nat.ne_of_lt h (Rl.talk.inj e)
 refine ⟨fun y hy=>?_,fun y z hy hz q=>?_,{ L.gb with bl:=fun i hi=>n3 (L.gb.bl i hi),few:=Nat.le_trans (Nat.le_of_eq (yW _ _)) hl },L.gw⟩
 ·by_cases e:y = .talk b.tks.length
  ·rw [e]
   exact ⟨_,(congrArg (S[·]?) (yZ ..)).trans h,x,vF _ _,rfl⟩
  ·refine xEA (L.at_ y (hal y e hy)) fun o q1 q2=>⟨o,(congrArg (S[·]?) (if_neg e)).trans q1,?_⟩
   induction y using Law.Rl.casesOn with
   | talks=>exact jtF (fun i hi=>ne (L.gb.bl i hi)) q2
   | talk i=>exact xEA q2 fun z z1 z2=>⟨z,z9 z1,z2⟩
   | scene i=>exact jkD q2 fun f m z1 z2 z3 z4 z5 z6=>⟨f,m,z1,z2,z3,z4.trans (congrArg (fun n=>some (AV.ref n)) (ne (Nat.lt_of_lt_of_le (j5 z1) hn)).symm),z5,z6⟩
   | _=>exact q2
 ·by_cases e1:y = .talk b.tks.length
  ·by_cases e2:z = .talk b.tks.length
   ·exact e1.trans e2.symm
   ·exact absurd ((if_neg e2).symm.trans (q.symm.trans (if_pos e1))) (ha z (hal z e2 hz))
  ·by_cases e2:z = .talk b.tks.length
   ·exact absurd ((if_neg e1).symm.trans (q.trans (if_pos e2))) (ha y (hal y e1 hy))
   ·exact L.inj y z (hal y e1 hy) (hal z e2 hz) ((if_neg e1).symm.trans (q.trans (if_neg e2)))
theorem Lay.push {T:St} (LT:Lay r c b w T) (L:Lay r c b w S) (M:Mv b w r T b w r S) (C:Cpl b w) (hl:w.rws.length < 27) {x:R} {now:Int} {at_ as_ ar:Nat} {fs:List (Str×AV)} {orow:AO}
  (h1:T.length≤at_) (h2:T.length≤as_) (h3:T.length≤ar) (n12:at_≠as_) (n13:at_≠ar) (n23:as_≠ar)
  (ht:S[at_]? = some (kJ w.rws.length x)) (hs:S[as_]? = some (.inst "Scene" fs)) (hfl:fs.length≤100) (hft:j6 ("talk" : Str) fs=some (.ref at_)) (hfk:j6 ("talks" : Str) fs=some (.ref (r .book))) (hfn:j6 ("now" : Str) fs=some (.int now))
  (hr:S[ar]? = some orow) (hrd:isD 2 (m4 w.rws.length x) orow) :
  ∃ r',Lay r' c (xF b x now) (ja1 w x) ((S.set (r .scenes) (.list (((List.range b.scn.length).map fun i=>.ref (r (.scene i)))++[.ref as_]))).set (r .wrows) (.list (((List.range w.rws.length).map fun i=>.ref (r (.row i)))++[.ref ar])))∧
   Mv b w r T (xF b x now) (ja1 w x) r' ((S.set (r .scenes) (.list (((List.range b.scn.length).map fun i=>.ref (r (.scene i)))++[.ref as_]))).set (r .wrows) (.list (((List.range w.rws.length).map fun i=>.ref (r (.row i)))++[.ref ar])))∧
   r' (.scene w.rws.length)=as_∧r' (.row w.rws.length)=ar:=by
 have hn1:w.rws.length=b.tks.length:=congrArg List.length C.rows.symm
 have hn2:w.rws.length=b.scn.length:=hn1.trans C.scn.symm
 rw [hn1] at ht
 have fr:∀ {a},T.length≤a→∀ y,al b w y→r y≠a:=fun h y hy q=>Nat.not_lt.2 h (q▸LT.lt hy)
 have hal1:∀ y,y≠.talk b.tks.length→al { b with tks:=b.tks++[x]} w y→al b w y:=fun y e hy=>by
  induction y using Law.Rl.casesOn<;>first | exact hy | exact jc7 hy fun q=>e (congrArg Rl.talk q)
 have hal2:∀ y,y≠.scene b.scn.length→al (xF b x now) w y→al { b with tks:=b.tks++[x]} w y:=fun y e hy=>by
  induction y using Law.Rl.casesOn<;>first | exact hy | exact jc7 hy fun q=>e (congrArg Rl.scene q)
 have hal3:∀ y,y≠.row w.rws.length→al (xF b x now) (ja1 w x) y→al (xF b x now) w y:=fun y e hy=>by
  induction y using Law.Rl.casesOn<;>first | exact hy | exact jc7 hy fun q=>e (congrArg Rl.row q)
 have L1:=L.addTalk (Nat.le_of_eq C.scn) (hn1▸hl) (fr h1) ht hal1
 have f2:=ja5 (fr h2) n12 hal1
 have L2:=L1.swap (b':=xF b x now) (w':=w) (.scene b.scn.length) .scenes trivial (fun q=>Rl.noConfusion q) f2 (fun _ _=>rfl) hs
  (congrArg AO.list (jgQ (x:=now) (fun i hi=>zB (r:=upd r (.talk b.tks.length) at_) as_ fun e=>Nat.ne_of_lt hi (Rl.scene.inj e)) (yZ ..)))
  ⟨fs,now,vF _ _,rfl,hfl,hft.trans (congrArg (fun n=>some (AV.ref n)) ((congrArg (fun n=>upd r (.talk b.tks.length) at_ (.talk n)) C.scn).trans (yZ ..)).symm),hfk,hfn⟩ hal2
  (fun y o q1 q2 _ q4=>by
   induction y using Law.Rl.casesOn<;>first | exact q4 | exact absurd rfl q1 | exact jkD q4 fun f m z1 z=>fun z2 z3 z4 z5=>⟨f,m,z9 z1,z,z2,z3,z4,z5⟩) { L1.gb with } L1.gw
 have L3:=L2.swap (b':=xF b x now) (w':=ja1 w x) (.row w.rws.length) .wrows trivial (fun q=>Rl.noConfusion q) (ja5 (ja5 (fr h3) n13 hal1) n23 hal2) (fun _ _=>rfl) ((List.getElem?_set_ne (fun q=>fr h3 .scenes trivial q)).trans hr)
  (congrArg AO.list (jgQ (x:=x) (fun i hi=>zB (r:=upd (upd r (.talk b.tks.length) at_) (.scene b.scn.length) as_) ar fun e=>Nat.ne_of_lt hi (Rl.row.inj e)) (yZ ..)))
  ⟨x,vF _ _,hrd⟩ hal3
  (fun y o q1 q2 _ q4=>by
   induction y using Law.Rl.casesOn<;>first | exact q4 | exact absurd rfl q1 | exact xEA q4 fun z z1 z2=>⟨z,z9 z1,z2⟩ | exact jtF (fun i hi=>zB ar fun e=>Nat.ne_of_lt (L.gw.wl i hi) (Rl.row.inj e)) q4) L2.gb (L.gw.push hl x)
 have M3:=((M.grow (.talk b.tks.length) (Nat.lt_irrefl _) h1 hal1 fun y hy=>by induction y using Law.Rl.casesOn<;>first | exact hy | exact n3 hy).grow (.scene b.scn.length) (Nat.lt_irrefl _) h2 hal2 fun y hy=>by induction y using Law.Rl.casesOn<;>first | exact hy | exact n3 hy).grow (.row w.rws.length) (Nat.lt_irrefl _) h3 hal3 fun y hy=>by induction y using Law.Rl.casesOn<;>first | exact hy | exact n3 hy
 exact ⟨_,L3,(M3.trans (Mv.set .scenes trivial _ fun _=>Iff.rfl)).trans (Mv.set .wrows trivial _ fun _=>Iff.rfl),hn2▸yZ ..,yZ ..⟩
end
end Mine.Law
end
section
open PySem
namespace Mine.Law
structure LessW (w w':W):Prop where
 len:w'.rws.length=w.rws.length
 ends:∀ (i:Nat) (x':R),w'.rws[i]? = some x'→∃ x,w.rws[i]? = some x∧x'.a=x.a∧x'.b=x.b
 fl:w'.fl.length≤w.fl.length
 wh:w'.wh.length≤w.wh.length
theorem LessW.refl (w:W):LessW w w:=⟨rfl,fun i x h=>⟨x,h,rfl,rfl⟩,Nat.le_refl _,Nat.le_refl _⟩
theorem LessW.trans {u v w:W} (h:LessW u v) (g:LessW v w):LessW u w:=by
 refine ⟨g.len.trans h.len,fun i x hx=>?_,Nat.le_trans g.fl h.fl,Nat.le_trans g.wh h.wh⟩
 refine yJ (g.ends i x hx) fun y hy e1 e2=>?_
 refine yJ (h.ends i y hy) fun z hz e3 e4=>?_
 exact ⟨z,hz,e1.trans e3,e2.trans e4⟩
theorem jm3 {l:List R} {i:Nat} {x:R} (hx:l[i]? = some x) (s:Int) (j:Nat) (y:R) (hy:(l.set i { x with st:=s })[j]? = some y):∃ z,l[j]? = some z∧y.a=z.a∧y.b=z.b:=by
 by_cases e:i=j
 ·subst e
  exact Option.some.inj ((List.getElem?_set_self (j5 hx)).symm.trans hy)▸⟨x,hx,rfl,rfl⟩
 ·exact ⟨y,(List.getElem?_set_ne e).symm.trans hy,rfl,rfl⟩
theorem LessW.out {w:W} {i:Nat} {x:R} (hx:w.rws[i]? = some x):LessW w (vS w i x):=
 ⟨List.length_set,fun j y hy=>jm3 hx _ j y hy,List.length_filter_le ..,List.length_filter_le ..⟩
theorem LessW.outI (w:W) (i:Nat):LessW w (outI w i):=by
 delta Mine.Law.outI
 cases hx:w.rws[i]? with
 | none=>exact .refl w
 | some x=>exact .out hx
theorem LessW.find (w:W) (z:Int) (t:T6) (now:Int):LessW w (yY w z t now).1:=
 wV (P:=fun F=>LessW w F.1) (fun _=>.refl w) (fun _ _ _=>.refl w) (fun _ _ _ hx _=>.out hx) fun _ _ _ _ _=>.refl w
theorem LessW.add {w:W} {i:Nat} {x:R} (hx:w.rws[i]? = some x):LessW w (addW w i x):=
 ⟨List.length_set,fun j y hy=>jm3 hx _ j y hy,Nat.le_refl _,Nat.le_refl _⟩
theorem LessW.foldl:∀ (l:List Nat) (w:W),LessW w (l.foldl Mine.Law.outI w)
 | [],w=>.refl w
 | i::l,w=>(LessW.outI w i).trans (LessW.foldl l _)
theorem LessW.sweep (w:W) (now:Int):LessW w (kB w now).1:=.foldl _ _
theorem LessW.room (w:W) (now:Int):LessW w (jbJ w now).1:=
 uT (P:=fun F:W×Bool=>LessW w F.1) (fun _=>.sweep w now) fun _=>match (kB w now).1.wl.filter (wB (kB w now).1) with
  | []=>.sweep w now
  | _::_=>(LessW.sweep w now).trans (.outI _ _)
theorem Cpl.off8 {b:B} {w:W} (C:Cpl b w) {i:Nat} {x:R} (hx:w.rws[i]? = some x) (h8:¬ Int.fmod (Int.fdiv x.st 8) 2=1):i ∉ w.wl:=C.off hx ((jpU x.st (C.ok i x hx)).2 h8)
theorem LessW.enter {b:B} {w:W} (C:Cpl b w) (i:Nat) (now:Int):LessW w (vX w i now).1:=by
 delta vX
 cases hx:w.rws[i]? with
 | none=>exact .refl w
 | some x=>
  have l1:=LessW.find w x.zone x.a now
  have l2:=l1.trans (LessW.find (yY w x.zone x.a now).1 x.zone x.b now)
  exact uT (P:=fun F:W×Bool=>LessW w F.1) (fun _=>.refl w) fun h8=>uT (P:=fun F:W×Bool=>LessW w F.1) (fun _=>l1) fun _=>uT (P:=fun F:W×Bool=>LessW w F.1) (fun _=>l2) fun _=>
   l2.trans (.add ((uQ (w9 (C.off8 hx h8) _ _ _) ..).trans ((uQ (C.off8 hx h8) ..).trans hx)))
structure Inv (k:Nat) (r:Rl→Nat) (c:Cs) (b:B) (w:W) (S:St):Prop where
 lay:Lay r c b w S
 cpl:Cpl b w
 tn:∀ (i:Nat) (x:R),w.rws[i]? = some x→Tn x.a∧Tn x.b
 cnt:w.rws.length≤k∧w.fl.length≤2*k∧w.wh.length≤k
 free:∀ y,al b w y→r y≠0
 pos:0 < S.length
section
variable {k:Nat} {r r':Rl→Nat} {c:Cs} {b b':B} {w w':W} {S S':St}
theorem Inv.next (I:Inv k r c b w S) (L:Lay r' c b' w' S') (M:Mv b w r S b' w' r' S') (C:Cpl b' w') (h:LessW w w') (m:Nat) (hm:k≤m):Inv m r' c b' w' S':=
 ⟨L,C,fun i x hx=>yJ (h.ends i x hx) fun z hz e1 e2=>e1▸e2▸I.tn i z hz,⟨Nat.le_trans (Nat.le_of_eq h.len) (Nat.le_trans I.cnt.1 hm),Nat.le_trans h.fl (Nat.le_trans I.cnt.2.1 (Nat.mul_le_mul_left 2 hm)),Nat.le_trans h.wh (Nat.le_trans I.cnt.2.2 hm)⟩,
  fun y hy=>(M.new y hy).elim (fun q=>q.2.symm▸I.free y q.1) fun q=>Nat.ne_of_gt (Nat.lt_of_lt_of_le I.pos q),Nat.lt_of_lt_of_le I.pos M.len⟩
theorem Inv.app (I:Inv k r c b w S) (ys:List AO):Inv k r c b w (S++ys):=I.next (I.lay.app ys) (Mv.app ys) I.cpl (.refl w) k (Nat.le_refl _)
theorem jpF (q:Bool) (S:St):jO S .Eq (jkU q) (jkU q)=some true:=by induction q using Bool.casesOn<;>rfl
theorem Inv.confirm (I:Inv k r c b w S) {i:Nat} {x:R} {now:Int} (hx:w.rws[i]? = some x) (hn:b.scn[i]? = some now) (d:Nat) :
  ∃ r' b' w' S1 S',Inv k r' c b' w' S'∧Mv b w r S b' w' r' S'∧j1 prg (d+4) "confirm" [.ref (r (.scene i))] S=some (jkU (tG b i now).2,S1)∧j1 prg (d+4) "_law_enter" [.ref (r .world),.ref (r (.row i)),.int now] S1=some (jkU (tG b i now).2,S')∧
   (∀ y,al b w y→r y < S1.length):=by
 refine uN fun Gq kq=>?_
 have C:=I.cpl
 have hxb:b.tks[i]? = some x:=(congrArg (·[i]?) C.rows).trans hx
 refine jB (jn3 I.lay hxb hn C.tabIn (C.look x.zone x.a now).2.tabIn (fun h8=>by rw [C.live];exact C.off hx h8) (Nat.le_trans (C.tab54 I.lay.gw) (by decide)) d) fun r1 S1 L1 M1 e1=>?_
 refine jB (jqR L1 hx (now:=now) (fun h8=>C.off8 hx h8) (d+1)) fun r2 S2 L2 M2 e2=>?_
 refine xA (C.confirm i now) fun q C2=>?_
 refine kq ?_
 rw [M1.keep .world trivial trivial,M1.keep (.row i) (j5 hx) trivial,← q] at e2
 exact ⟨r2,_,_,S1,S2,I.next L2 (M1.trans M2) C2 (.enter C i now) k (Nat.le_refl _),M1.trans M2,e1,e2,fun y hy=>Nat.lt_of_lt_of_le (I.lay.lt hy) M1.len⟩
end
end Mine.Law
end
section
open PySem
set_option maxHeartbeats 1000000
namespace Mine.Law
theorem num_eq (n:Nat):(1:Int)+Int.fmod (7*(n:Int)) 31=num n:=by
 unfold num
 rw [Int.fmod_eq_emod_of_nonneg _ (by decide)]
 lia
theorem jj9 {T Y:St} {o:AO}:(T++o::Y)[T.length]? = some o:=by rw [List.getElem?_append_right (Nat.le_refl _),Nat.sub_self];rfl
theorem jrN {T Y:St} {o o':AO}:(T++o::Y).set T.length o'=T++o'::Y:=by rw [List.set_append_right _ _ (Nat.le_refl _),Nat.sub_self];rfl
theorem jeS (T:St) (o:AO):T.length < (T++[o]).length:=Nat.lt_of_lt_of_eq (Nat.lt_succ_self _) (yW T o).symm
section
variable {k:Nat} {r:Rl→Nat} {c:Cs} {b:B} {w:W} {T:St}
theorem Lay.scenes (L:Lay r c b w T):T[r .scenes]? = some (.list ((List.range b.scn.length).map fun i=>.ref (r (.scene i)))):=xEA (L.at_ .scenes trivial) fun o h1 h2=>h1.trans (congrArg some h2)
theorem mC {c:Str} {fs:List (Str×AV)} (hl:Nat.ble fs.length 500=true) (a:Str) (v:AV) {Y:St}:y6 (T ++ .inst c fs::Y) (.ref T.length) a v=some (T ++ .inst c (jA a v fs)::Y):=(jdK jj9 (Nat.le_of_ble_eq_true hl) a v).trans (congrArg some jrN)
theorem jn6 (I:Inv k r c b w T) (hk:k < 27) {t u:T6} (ht:Tn t) (hu:Tn u) {zone span bits now:Int} (hs:0≤span∧span < 4) (hb:0≤bits∧bits < 3) (d:Nat) {e3 e10 e11:Option AV} :
  ∃ r' b' w' S',Inv (k+1) r' c b' w' S'∧Mv b w r T b' w' r' S'∧
   ∀ {kn:Ev→St→Prop} {kr:AV→St→Prop},qB (j1 prg (d+4)) (i_law_begin.drop 6) [some (.ref (r .world)),some (.ref (r .book)),some (.ref (r .scenes)),e3,some (.int now),some (tV t),some (tV u),none,none,none,e10,e11,some (.int zone),some (.int span),some (.int bits)] T kn kr→kr (.bool true) S':=by
 refine uN fun Gq kq=>?_
 have L:=I.lay
 have C:=I.cpl
 have hn2:b.scn.length=w.rws.length:=C.scn.trans (congrArg List.length C.rows)
 have hN:w.rws.length < 27:=Nat.lt_of_le_of_lt I.cnt.1 hk
 refine xEA (pick (l:=[0,4,6]) hb.1 hb.2 rfl) fun st hst hst2=>?_
 refine xEA (pick (l:=[0,500,30000,600000]) hs.1 hs.2 rfl) fun sp _ hsp=>?_
 let x:R:=⟨Int.fdiv zone 2,t,u,st,now+sp⟩
 have hls:((List.range b.scn.length).map fun i=>AV.ref (r (.scene i))).length≤jC:=kU (Nat.le_trans (Nat.le_of_eq (List.length_range.trans hn2)) (Nat.le_of_lt hN))
 have hlen:jN "len" [.ref (r .scenes)] (T++[.dict 0 [] 0])=some (.int w.rws.length,T++[.dict 0 [] 0]):=
  (xT (L.app [.dict 0 [] 0]).scenes hls).trans (congrArg (fun n:Nat=>some (AV.int n,T++[AO.dict 0 [] 0])) ((List.length_map _).trans (List.length_range.trans hn2)))
 have n31:¬ (31:Int)=0:=by decide
 have n2:¬ ((2:Int)=0∨2^64≤(2:Int).natAbs):=by decide
 let o0:AO:=.dict 2 [(.str "number",.int (num w.rws.length)),(.str "zone",.int x.zone),(.str "ends",.tup [tV t,tV u]),(.str "status",.int st)] 4
 have hend:=xJ (S:=T) (.dict 0 [] 0) [.str "number",.int (num w.rws.length),.str "zone",.int (Int.fdiv zone 2),.str "ends",.tup [tV t,tV u],.str "status",.int st] o0 rfl
 refine xEA (uF (jW T o0) (n:=2) ⟨2,4,rfl,.inl rfl⟩ (x:=.str "until") rfl (by decide) (Nat.le_of_ble_eq_true rfl) (.int (now+sp))) fun o1 p1 p2=>?_
 replace p1:isD 2 (m4 w.rws.length x) o1:=p1
 replace p2:=p2.trans (congrArg some (gY T o0 o1))
 have hrow1:=jW T o1
 have l1:=jeS T o1
 have LT1:=L.app [o1]
 have M1:=Mv.app (b:=b) (w:=w) (r:=r) (S:=T) [o1]
 generalize T++[o1]=T1 at *
 have htk:=ju9 (S:=T1) (.int (num w.rws.length)) (tV t) (tV u) (.int x.zone) (d+3)
 have hsS:y6 (T1++[js8 (.int (num w.rws.length)) (tV t) (tV u) (.int x.zone)]) (.ref T1.length) "status" (.int x.st)=some (T1++[kJ w.rws.length ⟨x.zone,t,u,st,0⟩]):=mC rfl _ _
 have hsU:y6 (T1++[kJ w.rws.length ⟨x.zone,t,u,st,0⟩]) (.ref T1.length) "until" (.int x.un)=some (T1++[kJ w.rws.length x]):=mC rfl _ _
 have a0:=z9 hrow1 (m:=[js8 (.int (num w.rws.length)) (tV t) (tV u) (.int x.zone)])
 have a1:=z9 hrow1 (m:=[kJ w.rws.length ⟨x.zone,t,u,st,0⟩])
 have a2:=z9 hrow1 (m:=[kJ w.rws.length x])
 have k2:=jW T1 (kJ w.rws.length x)
 have l2:=jeS T1 (kJ w.rws.length x)
 have LT2:=LT1.app [kJ w.rws.length x]
 have M2:=M1.trans (Mv.app [kJ w.rws.length x])
 generalize T1++[kJ w.rws.length x]=T2 at *
 have a3:=z9 a2 (m:=[AO.dict 0 [] 0])
 have k3:=z9 k2 (m:=[AO.dict 0 [] 0])
 have l3:=jeS T2 (.dict 0 [] 0)
 have LT3:=LT2.app [.dict 0 [] 0]
 have M3:=M2.trans (Mv.app [.dict 0 [] 0])
 generalize hT3:T2++[AO.dict 0 [] 0]=T3 at *
 have hdct0:=(xJ (S:=T2) (.dict 0 [] 0) [] (.dict 0 [] 0) rfl).trans (congrArg (fun T=>some (AV.ref T2.length,T)) hT3)
 have hsc:=jrC (S:=T3) .none (.ref T2.length) (.int now) (d+3)
 let f1:=juN T3.length .none (.ref T2.length) (.int now)
 let f2:=jA ("talk" : Str) (.ref T1.length) f1
 let f3:=jA ("talks" : Str) (.ref (r .book)) f2
 have hsT:y6 (T3 ++ .inst "Scene" f1::xM) (.ref T3.length) "talk" (.ref T1.length)=some (T3 ++ .inst "Scene" f2::xM):=mC rfl _ _
 have hsK:y6 (T3 ++ .inst "Scene" f2::xM) (.ref T3.length) "talks" (.ref (r .book))=some (T3 ++ .inst "Scene" f3::xM):=mC rfl _ _
 have LT4:=LT3.app (.inst "Scene" f3::xM)
 have M4:=M3.trans (Mv.app (.inst "Scene" f3::xM))
 refine xEAAA (Lay.push L LT4 M4 C hN (x:=x) (now:=now) (Nat.le_of_lt l1) (Nat.le_of_lt (Nat.lt_trans l1 (Nat.lt_trans l2 l3))) (Nat.le_refl _) (Nat.ne_of_lt (Nat.lt_trans l2 l3)) (Nat.ne_of_gt l1) (Nat.ne_of_gt (Nat.lt_trans l1 (Nat.lt_trans l2 l3)))
  (z9 k3) jj9 (fs:=f3) (Nat.le_of_ble_eq_true rfl) rfl rfl rfl (z9 a3) p1) fun r' L' M' rSc rR=>?_
 generalize T3++AO.inst "Scene" f3::xM=T4 at *
 have ap1:=w7 LT4.scenes hls (.ref T3.length)
 have hap1:=uZ LT4.scenes
 have hrows:=(List.getElem?_set_ne (a:=AO.list (((List.range b.scn.length).map fun i=>.ref (r (.scene i)))++[.ref T3.length])) fun q=>Rl.noConfusion (L.inj .scenes .wrows trivial trivial q)).trans LT4.rows
 have ap2:=w7 hrows (kU (Nat.le_trans (Nat.le_of_eq List.length_range) (Nat.le_of_lt hN))) (.ref T.length)
 have hap2:=uZ hrows
 refine xEA LT4.world fun ow w1 w2=>?_
 have w1':=(List.getElem?_set_ne (a:=AO.list (((List.range b.scn.length).map fun i=>.ref (r (.scene i)))++[.ref T3.length])) fun q=>Rl.noConfusion (L.inj .scenes .world trivial trivial q)).trans w1
 have I':Inv (k+1) r' c (xF b x now) (ja1 w x) _:=⟨L',C.push L.gw ((by decide:∀ v∈[(0:Int),4,6],v∈okL) st hst) now,fun i y hy=>(jdR hy).elim (I.tn i y) fun q=>q.2▸⟨ht,hu⟩,
  ⟨Nat.le_trans (Nat.le_of_eq (yW _ _)) (Nat.succ_le_succ I.cnt.1),Nat.le_trans I.cnt.2.1 (Nat.mul_le_mul_left 2 (Nat.le_succ k)),Nat.le_succ_of_le I.cnt.2.2⟩,
  fun y hy=>(M'.new y hy).elim (fun q=>q.2.symm▸I.free y q.1) fun q=>Nat.ne_of_gt (Nat.lt_of_lt_of_le I.pos q),Nat.lt_of_lt_of_le I.pos M'.len⟩
 refine jeO (I'.confirm (i:=w.rws.length) (x:=x) (now:=now) (vF _ _) (hn2▸vF _ _) d) fun r2 b2 w2' S1 S2 I2 M2 e1 e2 _=>kq ⟨r2,b2,w2',S2,I2,M'.trans M2,fun H=>?_⟩
 rw [rSc] at e1
 rw [rR,M'.keep .world trivial trivial] at e2
 have hnum:∀ S,zK .Add (.int 1) (.int (Int.fmod (7*(w.rws.length:Int)) 31)) S=some (.int (num w.rws.length),S):=fun S=>(yL _ _ S).trans (congrArg (fun z=>some (AV.int z,S)) (num_eq _))
 exact (H _ (hlen) _ (vB (by decide) _ _) _ (qQ n31 _ _) _ (hnum _) _ (vM n2 _ _) _ (hst2 _) _ (hend) _ (hsp _) _ (yL _ _ _) _ (p2) _ (qD hrow1 p1) _ (qX hrow1 p1) _ (htk) _ (qF a0 p1) _ (hsS) _ (w6 a1 p1) _ (hsU) _ (hdct0) _ (hsc) _ (hsT) _ (hsK) _ (kA hap1) _ (ap1) _ (zZ w1' w2) _ (kA hap2) _ (ap2) _ (e1) _ (e2) _ (jpF _ _) :)
end
end Mine.Law
end
section
open PySem
set_option maxHeartbeats 2000000
namespace Mine.Law
theorem ne_tV (t:T6) (S:St):jO S .NotEq (tV t) (tV t)=some false:=show (xC S (tV t) (tV t)).map _=_ from mpp (show xC S (tV t) (tV t)=some true from wI (S:=S) 4 [t.f,t.p,t.s,t.sp,t.d,t.dp]) rfl
theorem ji6 (t:T6) (S:St):jO S .IsNot (tV t) .none=some true:=rfl
theorem jlH (t:T6) (S:St):jO S .Is (tV t) .none=some false:=rfl
section
variable {k:Nat} {r:Rl→Nat} {c:Cs} {b:B} {w:W} {S:St}
theorem jmE (I:Inv k r c b w S) (hk:k < 27) (rest now:Int) (d:Nat) :
  ∃ r' b' w' S',Inv (k+1) r' c b' w' S'∧Mv b w r S b' w' r' S'∧j1 prg (d+5) "_law_begin" [.ref (r .world),.ref (r .book),.ref (r .scenes),.int rest,.int now] S=some (.bool true,S'):=by
 have hd:=uR (S:=S) [972,4,3,4,3] (by decide) (by decide) rest (d+3)
 have e1:mM rest [972,4,3,4,3]=[Int.fmod rest 972,Int.fmod (Int.fdiv rest 972) 4,Int.fmod (Int.fdiv (Int.fdiv rest 972) 4) 3,Int.fmod (Int.fdiv (Int.fdiv (Int.fdiv rest 972) 4) 3) 4,Int.fmod (Int.fdiv (Int.fdiv (Int.fdiv (Int.fdiv rest 972) 4) 3) 4) 3]:=rfl
 rw [e1] at hd
 have r3:=jH (Int.fdiv (Int.fdiv (Int.fdiv rest 972) 4) 3) (b:=4) (by decide)
 have r4:=jH (Int.fdiv (Int.fdiv (Int.fdiv (Int.fdiv rest 972) 4) 3) 4) (b:=3) (by decide)
 generalize Int.fmod rest 972=which at *
 generalize Int.fmod (Int.fdiv rest 972) 4=change at *
 generalize Int.fmod (Int.fdiv (Int.fdiv rest 972) 4) 3=zone at *
 generalize Int.fmod (Int.fdiv (Int.fdiv (Int.fdiv rest 972) 4) 3) 4=span at *
 generalize Int.fmod (Int.fdiv (Int.fdiv (Int.fdiv (Int.fdiv rest 972) 4) 3) 4) 3=bits at *
 simp only [List.map_cons,List.map_nil] at hd
 have hseq:=jaE (S:=S) (AO.list [.int 972,.int 4,.int 3,.int 4,.int 3]) [.int which,.int change,.int zone,.int span,.int bits]
 have asD:S++[AO.list [.int 972,.int 4,.int 3,.int 4,.int 3]]++[AO.list [.int which,.int change,.int zone,.int span,.int bits]]=S++[AO.list [.int 972,.int 4,.int 3,.int 4,.int 3],AO.list [.int which,.int change,.int zone,.int span,.int bits]]:=by simp
 rw [asD] at hd hseq
 refine uN fun Gq kq=>?_
 refine kE (jsR (S:=S++[AO.list [.int 972,.int 4,.int 3,.int 4,.int 3],AO.list [.int which,.int change,.int zone,.int span,.int bits]]) which (d+2)) fun t y2 hsh ht=>?_
 refine xE (jfY (S:=S++[AO.list [.int 972,.int 4,.int 3,.int 4,.int 3],AO.list [.int which,.int change,.int zone,.int span,.int bits]]++y2) t (d+3)) fun y3 hu=>?_
 have asT:∃ Y,S++[AO.list [.int 972,.int 4,.int 3,.int 4,.int 3],AO.list [.int which,.int change,.int zone,.int span,.int bits]]++y2++y3=S++Y:=⟨_,by rw [List.append_assoc,List.append_assoc]⟩
 refine xE asT fun Y hY=>?_
 refine kq ?_
 rw [hY] at hu
 have I1:=I.app Y
 have M1:Mv b w r S b w r (S++Y):=Mv.app Y
 generalize S++Y=T at *
 have hinv:=fun T=>jg2 (S:=T) hsh (d+2)
 have start:∀ {kn:Ev→St→Prop} {kr:AV→St→Prop},qB (j1 prg (d+4)) i_law_begin [some (.ref (r .world)),some (.ref (r .book)),some (.ref (r .scenes)),some (.int rest),some (.int now),none,none,none,none,none,none,none,none,none,none] S kn kr→
   qB (j1 prg (d+4)) (i_law_begin.drop 3) [some (.ref (r .world)),some (.ref (r .book)),some (.ref (r .scenes)),some (.int rest),some (.int now),some (tV t),some (optT (yK t)),none,none,none,some (.int which),some (.int change),some (.int zone),some (.int span),some (.int bits)] T kn kr:=fun {kn kr} H=>by
  exact (H _ (hd) _ (hseq) _ (ht) _ (hu) :)
 cases htu:yK t with
 | none=>
  refine ⟨r,b,w,T,I1.next I1.lay Mv.refl I1.cpl (.refl w) (k+1) (Nat.le_succ k),M1,?_⟩
  rw [htu] at hinv start
  have i1:∀ T,j1 prg (d+4) "invert" [tV t] T=some (.none,T):=hinv
  have i2:∀ T,jO T .NotEq .none .none=some false:=fun _=>rfl
  have i3:∀ T,jO T .IsNot .none .none=some false:=fun _=>rfl
  have i4:∀ T,jO T .Is .none .none=some true:=fun _=>rfl
  exact (start (jaX (d+4) S (AV.ref (r Rl.world)) (AV.ref (r Rl.book)) (AV.ref (r Rl.scenes)) (AV.int rest) (AV.int now)) _ (i1 _) _ (i2 _) _ (i3 _) _ (i4 _) :)
 | some u=>
  refine xAA (hsh.tn htu) fun tn1 back tn2=>?_
  have tnu:Tn u:=tn2 u.s u.d
  have hinv2:=fun T=>jg2 (S:=T) tnu.1 (d+2)
  rw [back] at hinv2
  rw [htu] at hinv start
  have i1:∀ T,j1 prg (d+4) "invert" [tV t] T=some (tV u,T):=hinv
  have i2:∀ T,j1 prg (d+4) "invert" [tV u] T=some (tV t,T):=hinv2
  have mid:∀ (u':T6),Tn u'→(∀ {kn:Ev→St→Prop} {kr:AV→St→Prop},qB (j1 prg (d+4)) (i_law_begin.drop 5) [some (.ref (r .world)),some (.ref (r .book)),some (.ref (r .scenes)),some (.int rest),some (.int now),some (tV t),some (tV u),none,none,none,some (.int which),some (.int change),some (.int zone),some (.int span),some (.int bits)] T kn kr→qB (j1 prg (d+4)) (i_law_begin.drop 6) [some (.ref (r .world)),some (.ref (r .book)),some (.ref (r .scenes)),some (.int rest),some (.int now),some (tV t),some (tV u'),none,none,none,some (.int which),some (.int change),some (.int zone),some (.int span),some (.int bits)] T kn kr)→
    ∃ r' b' w' S',Inv (k+1) r' c b' w' S'∧Mv b w r S b' w' r' S'∧j1 prg (d+5) "_law_begin" [.ref (r .world),.ref (r .book),.ref (r .scenes),.int rest,.int now] S=some (.bool true,S'):=by
   intro u' hu' hF
   refine vO (jn6 I1 hk tn1 hu' (zone:=zone) (now:=now) r3 r4 d (e3:=some (.int rest)) (e10:=some (.int which)) (e11:=some (.int change))) fun r' b' w' S' I' M' e'=>?_
   refine ⟨r',b',w',S',I',M1.trans M',?_⟩
   exact (e' (hF (start (jaX (d+4) S (AV.ref (r Rl.world)) (AV.ref (r Rl.book)) (AV.ref (r Rl.scenes)) (AV.int rest) (AV.int now)) _ (i1 _) _ (ne_tV _ _) _ (ji6 _ _) _ (i2 _) _ (ne_tV _ _) _ (jlH _ _))) :)
  have s0:∀ T,k9 T (tV t) (.int 0)=some (.int t.f):=fun _=>rfl
  have s5:∀ T,k9 T (tV u) (.int 5)=some (.int u.dp):=fun _=>rfl
  have c4:∀ T,uX T (tV u) none (some 4)=some (.tup [.int u.f,.int u.p,.int u.s,.int u.sp],T):=fun _=>rfl
  have c2:∀ T,uX T (tV u) none (some 2)=some (.tup [.int u.f,.int u.p],T):=fun _=>rfl
  have c3:∀ T,uX T (tV u) (some 3) none=some (.tup [.int u.sp,.int u.d,.int u.dp],T):=fun _=>by kernel_rfl
  have b4:∀ (x:Int) T,zK .Add (.tup [.int u.f,.int u.p,.int u.s,.int u.sp]) (.tup [.int x,.int u.dp]) T=some (tV ⟨u.f,u.p,u.s,u.sp,x,u.dp⟩,T):=fun _ _=>rfl
  have b2:∀ (x:Int) T,zK .Add (.tup [.int u.f,.int u.p]) (.tup [.int x]) T=some (.tup [.int u.f,.int u.p,.int x],T):=fun _ _=>rfl
  have b3:∀ (x:Int) T,zK .Add (.tup [.int u.f,.int u.p,.int x]) (.tup [.int u.sp,.int u.d,.int u.dp]) T=some (tV ⟨u.f,u.p,x,u.sp,u.d,u.dp⟩,T):=fun _ _=>rfl
  have hh:=fun (f k:Int) (T:St)=>jhF (S:=T) f k (d+3)
  by_cases q2:change=2
  ·refine mid ⟨u.f,u.p,u.s,u.sp,zX t.f 7,u.dp⟩ (tn2 u.s (zX t.f 7)) fun {kn kr} H=>?_
   exact (H _ (yD q2 T) _ (c4 T) _ (s0 T) _ (hh t.f 7 T) _ (s5 T) _ (b4 (zX t.f 7) T) :)
  ·by_cases q3:change=3
   ·refine mid ⟨u.f,u.p,zX t.f 8,u.sp,u.d,u.dp⟩ (tn2 (zX t.f 8) u.d) fun {kn kr} H=>?_
    exact (H _ (kD q2 T) _ (yD q3 T) _ (c2 T) _ (s0 T) _ (hh t.f 8 T) _ (b2 (zX t.f 8) T) _ (c3 T) _ (b3 (zX t.f 8) T) :)
   ·refine mid u tnu fun {kn kr} H=>?_
    exact (H _ (kD q2 _) _ (kD q3 _) :)
end
end Mine.Law
end
section
open PySem
set_option maxHeartbeats 2000000
namespace Mine.Law
theorem jk8 (q:Option (Nat×Int)) (S:St):jO S .Eq (xZ q) (xZ q)=some true:=match q with
 | none=>rfl
 | some v=>wI (S:=S) 4 [num v.1,v.2]
section
variable {k:Nat} {r:Rl→Nat} {c:Cs} {b:B} {w:W} {S:St}
theorem jlA {k n:Nat} {f:Nat→Nat} (h:S[k]? = some (.list ((List.range n).map fun i=>.ref (f i)))) (hn:n≤1000) {p:Int} (h0:0≤p) (h1:p < n):k9 S (.ref k) (.int p)=some (.ref (f p.toNat)):=
 (jcR h _).trans ((if_pos ⟨h0,Int.lt_of_lt_of_le h1 (Int.le_trans (Int.ofNat_le.2 hn) (by decide))⟩).trans (by rw [List.getElem?_map,List.getElem?_range ((Int.toNat_lt h0).2 h1)];rfl))
theorem jlG {k n:Nat} {f:Nat→Nat} (h:S[k]? = some (.list ((List.range n).map fun i=>.ref (f i)))) (hn:n≤27):jN "len" [.ref k] S=some (.int n,S):=
 (xT h (kU (Nat.le_trans (Nat.le_of_eq List.length_range) hn))).trans (congrArg (fun m:Nat=>some (AV.int m,S)) ((List.length_map _).trans List.length_range))
theorem Lay.sub_rows (L:Lay r c b w S) {p:Int} (h0:0≤p) (h1:p < w.rws.length):k9 S (.ref (r .wrows)) (.int p)=some (.ref (r (.row p.toNat))):=jlA L.rows (Nat.le_trans L.gw.few (by decide)) h0 h1
theorem Lay.len_rows (L:Lay r c b w S):jN "len" [.ref (r .wrows)] S=some (.int w.rws.length,S):=jlG L.rows L.gw.few
theorem Lay.sub_scenes (L:Lay r c b w S) {p:Int} (h0:0≤p) (h1:p < b.scn.length) (h2:b.scn.length≤27):k9 S (.ref (r .scenes)) (.int p)=some (.ref (r (.scene p.toNat))):=jlA L.scenes (Nat.le_trans h2 (by decide)) h0 h1
theorem Lay.len_scenes (L:Lay r c b w S) (h2:b.scn.length≤27):jN "len" [.ref (r .scenes)] S=some (.int b.scn.length,S):=jlG L.scenes h2
theorem jpY {z:Int} {t:T6} {now:Int} {v:Nat×Int} (hq:(kF b z t now).2=some v):(kF b z t now).1=b∧∃ x,b.tks[v.1]? = some x:=by
 revert hq
 delta kF
 cases j6 (z,t) b.tab with
 | none=>exact fun h=>nomatch h
 | some u=>
  show (match b.tks[u.1]? with | none=>(b,none) | some x=>if x.un≤now then (kZ b u.1 x,none) else (b,some (u.1,u.2))).2=some v→(match b.tks[u.1]? with | none=>(b,none) | some x=>if x.un≤now then (kZ b u.1 x,none) else (b,some (u.1,u.2))).1=b∧_
  cases hx:b.tks[u.1]? with
  | none=>exact fun h=>nomatch h
  | some x=>
   dsimp only
   by_cases hu:x.un≤now
   ·rw [if_pos hu];exact fun h=>nomatch h
   ·rw [if_neg hu];exact fun h=>⟨rfl,x,Option.some.inj h▸hx⟩
theorem Inv.look (I:Inv k r c b w S) (z:Int) (t:T6) (now:Int) (d:Nat) :
  ∃ r' b' w' S1 S' q,Inv k r' c b' w' S'∧Mv b w r S b' w' r' S'∧(∃ v,j1 prg (d+3) "look_up" [.ref (r .book),.int z,tV t,.int now] S=some (v,S1)∧
   ((v = .none∧q=none)∨∃ a i wy,v = .tup [.ref a,.int wy]∧q=some (i,wy)∧kG S1 (.ref a) "number" = some (.int (num i))))∧
   j1 prg (d+3) "_law_find" [.ref (r .world),.int z,tV t,.int now] S1=some (xZ q,S'):=by
 refine uN fun Gq kq=>?_
 have C:=I.cpl
 refine jB (mW I.lay C.tabIn z t now d) fun r1 S1 L1 M1 e1=>?_
 refine jB (jhQ L1 z t now (d+1)) fun r2 S2 L2 M2 e2=>?_
 refine xA (C.look z t now) fun q C2=>?_
 refine kq ?_
 rw [M1.keep .world trivial trivial,← q] at e2
 refine ⟨r2,_,_,S1,S2,(kF b z t now).2,I.next L2 (M1.trans M2) C2 (.find w z t now) k (Nat.le_refl _),M1.trans M2,⟨_,e1,?_⟩,e2⟩
 cases hq:(kF b z t now).2 with
 | none=>exact .inl ⟨rfl,rfl⟩
 | some v=>exact xAE (jpY hq) fun hb1 x hx=>.inr ⟨_,v.1,v.2,rfl,rfl,jX (M1.keep (.talk v.1) (j5 hx) trivial▸L1.talk (hb1.symm▸hx))⟩
noncomputable abbrev envK (W K Y:AV) (rest now pick way flaw z:Int) (t:T6):Ev:=[some W,some K,some (.int rest),some (.int now),some Y,none,none,some (.int pick),some (.int way),some (.int flaw),some (.int z),some (tV t)]
section
variable {W K Y:AV} {rest now pick way flaw z:Int} {t:T6}
theorem jsH (tn:Tn t) (d:Nat):∃ z' t' T,(∃ Y,T=S++Y)∧∀ {kn:Ev→St→Prop} {kr:AV→St→Prop},qB (j1 prg (d+3)) (i_law_seek.drop 3) (envK W K Y rest now pick way flaw z t) S kn kr→qB (j1 prg (d+3)) (i_law_seek.drop 4) (envK W K Y rest now pick way flaw z' t') T kn kr:=by
 have nil:∃ Y,S=S++Y:=⟨[],(List.append_nil S).symm⟩
 by_cases f0:flaw=0
 ·exact ⟨1 - z,t,S,nil,fun H=>(H _ (yD f0 _) _ (jt8 _ _ _) :)⟩
 ·by_cases f1:flaw=1
  ·have c3:uX S (tV t) none (some 3)=some (.tup [.int t.f,.int t.p,.int t.s],S):=rfl
   have c4:uX S (tV t) (some 4) none=some (.tup [.int t.d,.int t.dp],S):=by kernel_rfl
   have s3:k9 S (tV t) (.int 3)=some (.int t.sp):=rfl
   have b1:zK .Add (.tup [.int t.f,.int t.p,.int t.s]) (.tup [.int (t.sp+1)]) S=some (.tup [.int t.f,.int t.p,.int t.s,.int (t.sp+1)],S):=rfl
   have b2:zK .Add (.tup [.int t.f,.int t.p,.int t.s,.int (t.sp+1)]) (.tup [.int t.d,.int t.dp]) S=some (tV ⟨t.f,t.p,t.s,t.sp+1,t.d,t.dp⟩,S):=rfl
   exact ⟨z,⟨t.f,t.p,t.s,t.sp+1,t.d,t.dp⟩,S,nil,fun H=>(H _ (kD f0 S) _ (yD f1 S) _ c3 _ s3 _ (uB t.sp 1 S) _ b1 _ c4 _ b2 :)⟩
  ·by_cases f2:flaw=2
   ·exact xE (Option.isSome_iff_exists.1 tn.2) fun t' ht'=>xE (jfY (S:=S) t (d+2)) fun Y hu=>⟨z,t',S++Y,⟨Y,rfl⟩,fun H=>(H _ (kD f0 _) _ (kD f1 _) _ (yD f2 _) _ (hu.trans (congrArg (fun o=>some (optT o,S++Y)) ht')) :)⟩
   ·exact ⟨z,t,S,nil,fun H=>(H _ (kD f0 _) _ (kD f1 _) _ (kD f2 _) :)⟩
theorem js0 (I:Inv k r c b w S) (z:Int) (t:T6) (d:Nat):∃ r' b' w' S',Inv k r' c b' w' S'∧Mv b w r S b' w' r' S'∧∀ {kn:Ev→St→Prop} {kr:AV→St→Prop},qB (j1 prg (d+3)) (i_law_seek.drop 4) (envK (.ref (r .world)) (.ref (r .book)) Y rest now pick way flaw z t) S kn kr→kr (.bool true) S':=by
 refine uN fun Gq kq=>?_
 refine jn2 (I.look z t now d) fun r' b' w' S1 S' q I' M' h e2=>kq ⟨r',b',w',S',I',M',fun go=>?_⟩
 refine xEA h fun v e1 hv=>?_
 rcases hv with ⟨rfl,rfl⟩ | ⟨a,i,wy,rfl,rfl,hnum⟩
 ·exact (go _ (e1) _ (is_none S1) _ (e2) _ (jk8 none S') :)
 ·have s0:k9 S1 (.tup [.ref a,.int wy]) (.int 0)=some (.ref a):=rfl
  have s1:k9 S1 (.tup [.ref a,.int wy]) (.int 1)=some (.int wy):=rfl
  exact (go _ (e1) _ (jnM _ S1) _ (s0) _ (hnum) _ (s1) _ (e2) _ (jk8 (some (i,wy)) S') :)
end
theorem jxL (I:Inv k r c b w S) (hn:0 < w.rws.length) (rest now:Int) (d:Nat) :
  ∃ r' b' w' S',Inv k r' c b' w' S'∧Mv b w r S b' w' r' S'∧j1 prg (d+4) "_law_seek" [.ref (r .world),.ref (r .book),.int rest,.int now] S=some (.bool true,S'):=by
 refine uN fun Gq kq=>?_
 have hd:=uR (S:=S) [16,2,6] (by decide) (by decide) rest (d+2)
 have hseq:=jaE (S:=S) (AO.list ([16,2,6].map .int)) ((mM rest [16,2,6]).map .int)
 have I1:=(I.app [AO.list ([16,2,6].map .int)]).app [AO.list ((mM rest [16,2,6]).map .int)]
 have M1:=(Mv.app (b:=b) (w:=w) (r:=r) (S:=S) [AO.list ([16,2,6].map .int)]).trans (Mv.app [AO.list ((mM rest [16,2,6]).map .int)])
 generalize S++[AO.list ([16,2,6].map .int)]++[AO.list ((mM rest [16,2,6]).map .int)]=T at *
 have nz:¬ ((w.rws.length:Int)=0):=fun q=>Nat.ne_of_gt hn (Int.ofNat.inj q)
 refine xA (jH (Int.fmod rest 16) (b:=(w.rws.length:Int)) (Int.ofNat_lt.2 hn)) fun p0 p1=>?_
 have hx:=List.getElem?_eq_getElem ((Int.toNat_lt p0).2 p1)
 generalize w.rws[(Int.fmod (Int.fmod rest 16) (w.rws.length:Int)).toNat]'((Int.toNat_lt p0).2 p1)=x at hx
 refine xA (jH (Int.fdiv rest 16) (b:=2) (by decide)) fun w0 w1'=>?_
 generalize hw:Int.fmod (Int.fdiv rest 16) 2=way at w0 w1'
 have hway:∀ T,Tn (side x way)∧k9 T (.tup [tV x.a,tV x.b]) (.int way)=some (tV (side x way)):=fun T=>
  (bit01 w0 w1').elim (fun e=>e▸⟨(I.tn _ _ hx).1,rfl⟩) fun e=>e▸⟨(I.tn _ _ hx).2,rfl⟩
 refine xEA I1.lay.world fun ow w1 w2=>?_
 refine xEA (I1.lay.row hx) fun ox x1 x2=>?_
 refine nY (jsH (S:=T) (W:=.ref (r .world)) (K:=.ref (r .book)) (Y:=.ref (r (.row (Int.fmod (Int.fmod rest 16) (w.rws.length:Int)).toNat))) (rest:=rest) (now:=now) (pick:=Int.fmod rest 16) (way:=way) (flaw:=Int.fmod (Int.fdiv (Int.fdiv rest 16) 2) 6) (z:=x.zone) (hway T).1 d) fun z' t' T' hY h1=>?_
 refine xE hY fun Y e=>?_
 refine vO (js0 (Y:=.ref (r (.row (Int.fmod (Int.fmod rest 16) (w.rws.length:Int)).toNat))) (rest:=rest) (now:=now) (pick:=Int.fmod rest 16) (way:=way) (flaw:=Int.fmod (Int.fdiv (Int.fdiv rest 16) 2) 6) (e▸I1.app Y) z' t' d) fun r' b' w' S' I' M' h2=>kq ⟨r',b',w',S',I',M1.trans ((e▸Mv.app Y:Mv b w r T b w r T').trans M'),?_⟩
 subst hw
 exact h2 (h1 (joS (d+3) S (AV.ref (r Rl.world)) (AV.ref (r Rl.book)) (AV.int rest) (AV.int now) _ (hd) _ (hseq) _ (zZ w1 w2) _ (zZ w1 w2) _ (I1.lay.len_rows) _ (qQ nz _ _) _ (I1.lay.sub_rows p0 p1) _ (qX x1 x2) _ (vH x1 x2) _ ((hway _).2) _ (m6 _ _ _) :))
end
end Mine.Law
end
section
open PySem
set_option maxHeartbeats 1000000
namespace Mine.Law
noncomputable def jpD (l:List Ent) (i:Nat) (x:R):List Ent:=jA (2,x.b) (i,1) (jA (1,x.a) (i,0) l)
noncomputable def jk4 (b:B) (i:Nat) (x:R) (now:Int):B:={ b with fl:=jpD b.fl i x,exs:=b.exs++[(i,now+1)],el:=b.el++[b.exs.length]}
noncomputable def jp2 (w:W) (i:Nat) (x:R) (now:Int):W:={ w with fl:=jpD w.fl i x,wh:=w.wh++[(i,now+1)]}
theorem aputF (l:List Ent) {i:Nat} (hi:i < 27) (k:Key) (z:Int) (h:∀ e∈l,e.2.1 < 27):∀ e∈jA k (i,z) l,e.2.1 < 27:=fun e he=>(z0 he).elim (fun q=>q▸hi) (h e)
section
variable {k:Nat} {r:Rl→Nat} {c:Cs} {b:B} {w:W} {S:St}
theorem Lay.setWflows (L:Lay r c b w S) {t:List Ent} {o':AO} (ho:isD 4 (flE t) o') (g:GoodW { w with fl:=t }):Lay r c b { w with fl:=t } (S.set (r .wflows) o'):=
 L.set .wflows trivial ho (fun x h=>h) (fun x o hx _ h=>by induction x using Law.Rl.casesOn<;>first | exact h | exact absurd rfl hx) L.gb g
theorem GoodB.flPut (g:GoodB b) {i:Nat} (hi:i < 27) (ky:Key) (z:Int) (hl:b.fl.length≤900):GoodB { b with fl:=jA ky (i,z) b.fl }:=
 { g with fl:=aputF _ hi _ _ g.fl,flN:=qG g.flN,small:=⟨g.small.1,Nat.le_trans kO (Nat.le_trans (Nat.succ_le_succ hl) (by decide)),g.small.2.2⟩}
theorem GoodW.flPut (g:GoodW w) {i:Nat} (hi:i < 27) (ky:Key) (z:Int) (hl:w.fl.length≤900):GoodW { w with fl:=jA ky (i,z) w.fl }:=
 { g with fl:=aputF _ hi _ _ g.fl,flN:=qG g.flN,small:=⟨Nat.le_trans kO (Nat.le_trans (Nat.succ_le_succ hl) (by decide)),g.small.2⟩}
theorem jlW (L:Lay r c b w S) {i:Nat} {x:R} (hx:w.rws[i]? = some x) (h1:b.fl.length≤900) (h2:w.fl.length≤900) (call:Callee) {wy:Int} (hw:wy=0∨wy=1) (e3:Option AV) :
  ∃ S',Lay r c { b with fl:=jA (1+wy,side x wy) (i,wy) b.fl } { w with fl:=jA (1+wy,side x wy) (i,wy) w.fl } S'∧Mv b w r S b w r S'∧
   rB call vW [some (.ref (r .world)),some (.ref (r .book)),some (.ref (r (.row i))),e3,some (.int (num i)),some (.int wy)] S=some (.nx [some (.ref (r .world)),some (.ref (r .book)),some (.ref (r (.row i))),e3,some (.int (num i)),some (.int wy)] S'):=by
 refine uN fun Gq kq=>?_
 have hi:i < 27:=Nat.lt_of_lt_of_le (j5 hx) L.gw.few
 have hB:=L.book
 refine xEA (L.row hx) fun ox x1 x2=>?_
 refine xEA (L.at_ .flows trivial) fun of f1 f2=>?_
 have hway:∀ T,k9 T (.tup [tV x.a,tV x.b]) (.int wy)=some (tV (side x wy)):=fun T=>by
  rcases hw with rfl | rfl<;>rfl
 refine xEA (uF f1 f2 (x:=kV (1+wy,side x wy)) rfl (by decide) (z8 L.gb.small.2.1) (fV (i,wy))) fun o1 p1 p2=>?_
 have L1:=L.setFlows (jrQ ..▸p1) (L.gb.flPut hi _ _ h1)
 refine xEA L1.world fun ow w1 w2=>?_
 refine xEA (L1.row hx) fun oy y1 y2=>?_
 refine xEA (L1.at_ .wflows trivial) fun og g1 g2=>?_
 refine xEA (uF g1 g2 (x:=kV (1+wy,side x wy)) rfl (by decide) (z8 L.gw.small.1) (fV (i,wy))) fun o2 p3 p4=>?_
 have L2:=L1.setWflows (jrQ ..▸p3) (L.gw.flPut hi _ _ h2)
 exact kq ⟨_,L2,(Mv.set (b1:=b) (w1:=w) .flows trivial o1 fun _=>Iff.rfl).trans (Mv.set .wflows trivial o2 fun _=>Iff.rfl),
  (blk call vW [some (AV.ref (r Rl.world)),some (AV.ref (r Rl.book)),some (AV.ref (r (Rl.row i))),e3,some (AV.int (num i)),some (AV.int wy)] S _ (jt8 _ _ _) _ (zY hB) _ (uB _ _ _) _ (vH x1 x2) _ (hway _) _ (p2) _ (jt8 _ _ _) _ (xI w1 w2) _ (uB _ _ _) _ (vH y1 y2) _ (hway _) _ (p4) :)⟩
theorem Cpl.hang (C:Cpl b w) (g:GoodB b) (i:Nat) (x:R) (now:Int):Cpl (jk4 b i x now) (jp2 w i x now):=by
 refine { C with fl:=congrArg (jpD · i x) C.fl,hung:=?_ }
 show (b.el++[b.exs.length]).map (fun j=>(b.exs++[(i,now+1)])[j]?)=(w.wh++[(i,now+1)]).map some
 have h1:b.el.map (fun j=>(b.exs++[(i,now+1)])[j]?)=w.wh.map some:=(List.map_congr_left fun j hj=>List.getElem?_append_left (g.el j hj)).trans C.hung
 rw [List.map_append,h1,List.map_append,List.map_cons,vF]
 rfl
theorem Lay.addExp (L:Lay r c b w S) {i:Nat} (hi:i < 27) (hl:b.el.length≤27) (now:Int) (y z:AV) (hal:∀ y,y≠.expect b.exs.length→al { b with exs:=b.exs++[(i,now)],el:=b.el++[b.exs.length]} w y→al b w y) :
  Lay (upd r (.expect b.exs.length) S.length) c { b with exs:=b.exs++[(i,now)],el:=b.el++[b.exs.length]} w ((S++[AO.inst "Expect" [("master",.int (num i)),("t",y),("zone",z),("until",.int now)]]).set (r .exps) (.list ((b.el.map fun j=>AV.ref (r (.expect j)))++[.ref S.length]))):=
 L.swap (.expect b.exs.length) .exps trivial (fun q=>Rl.noConfusion q) (fun y hy=>Nat.ne_of_lt (L.lt hy)) (fun k hk=>List.getElem?_append_left hk) (jW _ _)
  (congrArg AO.list (show _=(b.el++[b.exs.length]).map _ by
   rw [List.map_append]
   exact congr (congrArg _ (List.map_congr_left fun j hj=>congrArg AV.ref (zB (r:=r) _ fun q=>Nat.ne_of_lt (L.gb.el j hj) (Rl.expect.inj q)).symm)) (congrArg (fun n=>[AV.ref n]) (yZ ..).symm)))
  ⟨(i,now),_,_,vF _ _,rfl⟩ hal
  (fun z o h1 _ _ h4=>by
   induction z using Law.Rl.casesOn<;>first | exact h4 | exact absurd rfl h1 | exact nY h4 fun p y z q1 q2=>⟨p,y,z,z9 q1,q2⟩)
  { L.gb with
   el:=fun j hj=>(List.mem_append.1 hj).elim (fun q=>n3 (L.gb.el j q)) fun q=>Nat.lt_of_le_of_lt (Nat.le_of_eq (List.mem_singleton.1 q)) (Nat.lt_of_lt_of_eq (Nat.lt_succ_self _) (yW _ _).symm)
   exs:=fun p hp=>(List.mem_append.1 hp).elim (L.gb.exs p) fun q=>List.mem_singleton.1 q▸hi
   small:=⟨L.gb.small.1,L.gb.small.2.1,Nat.le_trans (Nat.le_of_eq (yW _ _)) (Nat.le_trans (Nat.succ_le_succ hl) (by decide))⟩} L.gw
theorem jx7 (I:Inv k r c b w S) (hk:k < 27) {i:Nat} {x:R} (hx:w.rws[i]? = some x) (now:Int) (d:Nat) :
  ∃ r' b' w' S',Inv (k+1) r' c b' w' S'∧Mv b w r S b' w' r' S'∧j1 prg (d+2) "_law_hang" [.ref (r .world),.ref (r .book),.ref (r (.row i)),.int now] S=some (.none,S'):=by
 refine uN fun Gq kq=>?_
 have L:=I.lay
 have C:=I.cpl
 have hi:i < 27:=Nat.lt_of_lt_of_le (j5 hx) L.gw.few
 have hf1:w.fl.length≤54:=Nat.le_trans I.cnt.2.1 (Nat.mul_le_mul_left 2 (Nat.le_of_lt hk))
 have hf2:b.fl.length≤54:=C.fl▸hf1
 have hwh:w.wh.length≤27:=Nat.le_trans I.cnt.2.2 (Nat.le_of_lt hk)
 have hel:b.el.length≤27:=Nat.le_trans (Nat.le_of_eq ((List.length_map _).symm.trans ((congrArg List.length C.hung).trans (List.length_map _)))) hwh
 refine xEA (L.row hx) fun ox x1 x2=>?_
 refine yJ (jlW L hx (Nat.le_trans hf2 (by decide)) (Nat.le_trans hf1 (by decide)) (j1 prg (d+1)) (.inl rfl) (some (.int now))) fun S1 L1 M1 e1=>?_
 refine yJ (jlW L1 hx (Nat.le_trans kO (Nat.le_trans (Nat.succ_le_succ hf2) (by decide))) (Nat.le_trans kO (Nat.le_trans (Nat.succ_le_succ hf1) (by decide))) (j1 prg (d+1)) (.inr rfl) (some (.int now))) fun S2 L2 M2 e2=>?_
 replace M2:=M1.trans (M2.as (b':=b) (b1':=b) (w':=w) (w1':=w) (fun _=>Iff.rfl) (fun _=>Iff.rfl))
 have hB2:=L2.book
 refine xEA (L2.row (i:=i) (x:=x) hx) fun oy y1 y2=>?_
 refine xEA (L2.at_ .exps trivial) fun oe he1 he2=>?_
 replace he1:=he1.trans (congrArg some he2)
 let ex:AO:=.inst "Expect" [("master",.int (num i)),("t",.tup [.int 2,.int 17,.int (-1),.int 9,.int 21]),("zone",.int x.zone),("until",.int (now+1))]
 have hnew:j1 prg (d+1) "Expect" [.int (num i),.tup [.int 2,.int 17,.int (-1),.int 9,.int 21],.int x.zone,.int (now+1)] S2=some (.ref S2.length,S2++[ex]):=jo0 (S:=S2) (.int (num i)) (.tup [.int 2,.int 17,.int (-1),.int 9,.int 21]) (.int x.zone) (.int (now+1)) d
 have ap1:=w7 (z9 he1 (m:=[ex])) (kU hel) (.ref S2.length)
 have hal:∀ y,y≠.expect b.exs.length→al (jk4 b i x now) (jp2 w i x now) y→al b w y:=fun y e hy=>by
  induction y using Law.Rl.casesOn<;>first | exact hy | exact jc7 hy fun q=>e (congrArg Rl.expect q)
 have L3:Lay (upd r (.expect b.exs.length) S2.length) c (jk4 b i x now) { w with fl:=jpD w.fl i x } ((S2++[ex]).set (r .exps) (.list ((b.el.map fun j=>AV.ref (r (.expect j)))++[.ref S2.length]))):=L2.addExp hi hel (now+1) (.tup [.int 2,.int 17,.int (-1),.int 9,.int 21]) (.int x.zone) hal
 have M3:Mv b w r S (jk4 b i x now) (jp2 w i x now) (upd r (.expect b.exs.length) S2.length) ((S2++[ex]).set (r .exps) (.list ((b.el.map fun j=>AV.ref (r (.expect j)))++[.ref S2.length]))):=((M2.trans (Mv.app [ex])).grow (.expect b.exs.length) (Nat.lt_irrefl _) M2.len hal fun y hy=>by induction y using Law.Rl.casesOn<;>first | exact hy | exact n3 hy).trans (Mv.set (r:=upd r (.expect b.exs.length) S2.length) .exps trivial (.list ((b.el.map fun j=>AV.ref (r (.expect j)))++[.ref S2.length])) fun _=>Iff.rfl)
 generalize hS3:(S2++[ex]).set (r .exps) (.list ((b.el.map fun j=>AV.ref (r (.expect j)))++[.ref S2.length]))=S3 at *
 refine xEA L3.world fun ow w1 w2=>?_
 refine xEA (L3.at_ .hung trivial) fun oh g1 g2=>?_
 replace g1:S3[r .hung]? = some (.list (w.wh.map yM)):=g1.trans (congrArg some g2)
 have ap2:=w7 g1 (kU hwh) (.tup [.int (num i),.int (now+1)])
 have L4:Lay (upd r (.expect b.exs.length) S2.length) c (jk4 b i x now) (jp2 w i x now) (S3.set (r .hung) (.list ((w.wh++[(i,now+1)]).map yM))):=L3.set .hung trivial rfl (fun y h=>h) (fun y o hy _ h=>by induction y using Law.Rl.casesOn<;>first | exact h | exact absurd rfl hy) { L3.gb with } { L3.gw with
  wh:=fun p hp=>(List.mem_append.1 hp).elim (L.gw.wh p) fun q=>List.mem_singleton.1 q▸hi
  small:=⟨L3.gw.small.1,Nat.le_trans (Nat.le_of_eq (yW _ _)) (Nat.le_trans (Nat.succ_le_succ hwh) (by decide))⟩}
 have M4:=M3.trans (Mv.set .hung trivial (.list ((w.wh++[(i,now+1)]).map yM)) fun _=>Iff.rfl)
 refine kq ⟨_,_,_,_,⟨L4,C.hang L.gb i x now,I.tn,⟨Nat.le_succ_of_le I.cnt.1,Nat.le_trans kO (Nat.succ_le_succ (Nat.le_trans kO (Nat.succ_le_succ I.cnt.2.1))),Nat.le_trans (Nat.le_of_eq (yW _ _)) (Nat.succ_le_succ I.cnt.2.2)⟩,
  fun y hy=>(M4.new y hy).elim (fun q=>q.2.symm▸I.free y q.1) fun q=>Nat.ne_of_gt (Nat.lt_of_lt_of_le I.pos q),Nat.lt_of_lt_of_le I.pos M4.len⟩,M4,?_⟩
 exact (jnJ (d+1) S (AV.ref (r Rl.world)) (AV.ref (r Rl.book)) (AV.ref (r (Rl.row i))) (AV.int now) _ (qD x1 x2) _ (jcU _ _ _) _ (jK rfl e1 rfl (jK rfl e2 rfl rfl)) _ (wO hB2) _ (kA (uZ he1)) _ (qX y1 y2) _ (uB _ _ _) _ (hnew) _ (ap1) _ (nF w1 w2) _ (kA (uZ g1)) _ (uB _ _ _) _ (ap2.trans (congrArg (fun l=>some (AV.none,S3.set (r .hung) (AO.list l))) (List.map_append (f:=yM) (l₁:=w.wh) (l₂:=[(i,now+1)])).symm)) :)
end
end Mine.Law
end
section
open PySem
set_option maxHeartbeats 2000000
namespace Mine.Law
section
variable {k:Nat} {r:Rl→Nat} {c:Cs} {b:B} {w:W} {S:St}
theorem Lay.setNow (L:Lay r c b w S) {i:Nat} {n:Int} (hn:b.scn[i]? = some n) (now:Int):∃ S',y6 S (.ref (r (.scene i))) "now" (.int now)=some S'∧Lay r c { b with scn:=b.scn.set i now } w S'∧Mv b w r S { b with scn:=b.scn.set i now } w r S':=by
 have hi:=j5 hn
 have hl:(b.scn.set i now).length=b.scn.length:=List.length_set
 refine jeF (L.at_ (.scene i) hi) fun o h1 fs m h2 h3 h4 h5 h6 h7=>⟨_,jdK (h1.trans (congrArg some h3)) (Nat.le_trans h4 (by decide)) _ _,?_,Mv.set (.scene i) hi _ fun y=>by induction y using Law.Rl.casesOn<;>first | exact Iff.rfl | exact lt_set⟩
 refine L.set (.scene i) hi ⟨_,now,List.getElem?_set_self hi,rfl,Nat.le_trans (Nat.le_of_eq (jhA h7)) h4,(mZ (by decide) _ _).trans h5,(mZ (by decide) _ _).trans h6,jdI _ _ _⟩ (fun z h=>?_) (fun z o hz h' h=>?_) { L.gb with } L.gw
 ·induction z using Law.Rl.casesOn<;>first | exact h | exact lt_set.1 h
 ·induction z using Law.Rl.casesOn with
  | scenes=>exact h.trans (congrArg (fun n=>AO.list ((List.range n).map fun i=>.ref (r (.scene i)))) hl.symm)
  | scene j=>exact kE h fun f m' q1 q2=>⟨f,m',(List.getElem?_set_ne fun e=>hz (congrArg Rl.scene e.symm)).trans q1,q2⟩
  | _=>exact h
noncomputable def seeks:List Int:=[7,8,9,14,15]
theorem jv2 {n:Int} (T:St) (h:n∈seeks):jO T .In (.int n) (.tup [.int 7,.int 8,.int 9,.int 14,.int 15])=some true:=
 List.map_inj_left.1 (show seeks.map (fun n=>jO T .In (.int n) (.tup [.int 7,.int 8,.int 9,.int 14,.int 15]))=seeks.map fun _=>some true from rfl) n h
theorem jjV {n:Int} (T:St) (h:¬ n∈seeks) (h0:0≤n) (h1:n < 16):jO T .In (.int n) (.tup [.int 7,.int 8,.int 9,.int 14,.int 15])=some false:=
 List.map_inj_left.1 (show (((List.range 16).map Int.ofNat).filter fun n=>!decide (n∈seeks)).map (fun n=>jO T .In (.int n) (.tup [.int 7,.int 8,.int 9,.int 14,.int 15]))=(((List.range 16).map Int.ofNat).filter fun n=>!decide (n∈seeks)).map fun _=>some false from rfl) n
  (List.mem_filter.2 ⟨jcC (m:=16) h0 h1,congrArg not (decide_eq_false h)⟩)
theorem eq_bool (q:Bool) (S:St):jO S .Eq (.bool q) (.bool q)=some true:=match q with
 | true=>rfl
 | false=>rfl
theorem jvB (I:Inv k r c b w S) (hk:k < 27) (what rest now:Int) (hw:0≤what∧what < 16) (d:Nat) :
  ∃ r' b' w' S',Inv (k+1) r' c b' w' S'∧Mv b w r S b' w' r' S'∧j1 prg (d+6) "_law_event" [.ref (r .world),.ref (r .book),.ref (r .scenes),.int what,.int rest,.int now] S=some (.bool true,S'):=by
 refine jxR fun Gq kq=>?_
 have hN2:b.scn.length=w.rws.length:=I.cpl.scn.trans (congrArg List.length I.cpl.rows)
 have hN:=I.lay.gw.few
 have run:=jmF (d+5) S (AV.ref (r Rl.world)) (AV.ref (r Rl.book)) (AV.ref (r Rl.scenes)) (AV.int what) (AV.int rest) (AV.int now)
 by_cases h6:what < 6
 ·exact vO (jmE I hk rest now d) fun r' b' w' S' I' M' e'=>kq r' b' w' S' I' M' (run _ (lt_t h6 _) _ (e') :)
 ·have I1:=I.app [.list []]
  have M1:Mv b w r S b w r (S++[.list []]):=Mv.app _
  have heq0:=eq_nil I1.lay.scenes (jW S (.list []))
  by_cases h0:w.rws.length=0
  ·have heq:jO (S++[.list []]) .Eq (.ref (r .scenes)) (.ref S.length)=some true:=heq0.trans (congrArg some (decide_eq_true (by rw [hN2,h0];rfl)))
   exact vO (jmE I1 hk rest now d) fun r' b' w' S' I' M' e'=>kq r' b' w' S' I' (M1.trans M') (run _ (lt_f h6 _) _ (heq) _ (e') :)
  ·have heq:jO (S++[.list []]) .Eq (.ref (r .scenes)) (.ref S.length)=some false:=heq0.trans (congrArg some (decide_eq_false fun q=>h0 (hN2.symm.trans (List.length_range.symm.trans ((List.length_map _).symm.trans (congrArg List.length q))))))
   replace run:=(run _ (lt_f h6 _) _ (heq) :)
   generalize S++[AO.list []]=T at *
   by_cases hs:what∈seeks
   ·exact vO (jxL I1 (Nat.pos_of_ne_zero h0) rest now (d+1)) fun r' b' w' S' I' M' e'=>kq r' b' w' S' (I'.next I'.lay Mv.refl I'.cpl (.refl _) (k+1) (Nat.le_succ k)) (M1.trans M') (run _ (jv2 _ hs) _ (e') :)
   ·replace run:=(run _ (jjV _ hs hw.1 hw.2) :)
    by_cases h10:what=10
    ·refine jB (jd6 I1.lay now (d+2)) fun r1 S1 L1 m1 e1=>?_
     refine jB (jaM L1 now (d+3)) fun r2 S2 L2 m2 e2=>?_
     refine xA (I1.cpl.sweep now) fun q C2=>?_
     rw [m1.keep .world trivial trivial,← q] at e2
     exact kq r2 _ _ S2 (I1.next L2 (m1.trans m2) C2 (.sweep w now) (k+1) (Nat.le_succ k)) (M1.trans (m1.trans m2)) (run _ (yD h10 _) _ (e1) _ (e2) _ (yD rfl _) :)
    ·by_cases h11:what=11
     ·refine jB (juA I1.lay now (d+1)) fun r1 S1 L1 m1 e1=>?_
      refine jB (juK L1 now (d+2)) fun r2 S2 L2 m2 e2=>?_
      refine xA (I1.cpl.evict hN now) fun q C2=>?_
      rw [m1.keep .world trivial trivial,← q] at e2
      exact kq r2 _ _ S2 (I1.next L2 (m1.trans m2) C2 (.room w now) (k+1) (Nat.le_succ k)) (M1.trans (m1.trans m2)) (run _ (kD h10 _) _ (yD h11 _) _ (e1) _ (e2) _ (eq_bool _ _) :)
     ·
      have n16:¬ (16:Int)=0:=by decide
      have nz:¬ ((w.rws.length:Int)=0):=fun q=>h0 (Int.ofNat.inj q)
      refine xEA I1.lay.world fun ow w1 w2=>?_
      refine xA (jH (Int.fmod rest 16) (b:=(w.rws.length:Int)) (Int.ofNat_lt.2 (Nat.pos_of_ne_zero h0))) fun p0 p1=>?_
      have hlen:jN "len" [.ref (r .scenes)] T=some (.int w.rws.length,T):=hN2▸I1.lay.len_scenes (hN2.symm▸hN)
      replace run:=(run _ (kD h10 _) _ (kD h11 _) _ (qQ n16 _ _) _ (hlen) _ (qQ nz _ _) _ (zZ w1 w2) _ (I1.lay.sub_rows p0 p1) :)
      generalize Int.fmod (Int.fmod rest 16) (w.rws.length:Int)=p at *
      have hi:p.toNat < w.rws.length:=(Int.toNat_lt p0).2 p1
      have hin:=hN2.symm▸hi
      have hx:=List.getElem?_eq_getElem hi
      have hn0:=List.getElem?_eq_getElem hin
      have p1':p < (b.scn.length:Int):=hN2.symm▸p1
      have hscn:=I1.lay.sub_scenes (p:=p) p0 p1' (hN2.symm▸hN)
      by_cases hc:what=6
      ·refine yJ (I1.lay.setNow hn0 now) fun S1 s1 L1 m1=>?_
       have hl:(b.scn.set p.toNat now).length=b.scn.length:=List.length_set
       have I2:=I1.next L1 m1 { I1.cpl with scn:=hl.trans I1.cpl.scn } (.refl w) k (Nat.le_refl _)
       exact jeO (I2.confirm hx (List.getElem?_set_self hin) (d+1)) fun r' b' w' S2 S3 I3 M3 e1 e2 lt=>kq r' b' w' S3 (I3.next I3.lay Mv.refl I3.cpl (.refl _) (k+1) (Nat.le_succ k)) (M1.trans (m1.trans M3))
        (run _ (yD hc _) _ (hscn) _ (s1) _ (L1.sub_scenes p0 (hl.symm▸p1') (hl.symm▸hN2.symm▸hN)) _ (e1) _ (e2) _ (jpF _ _) :)
      ·replace run:=(run _ (kD hc _) :)
       by_cases h12:what=12
       ·refine ja4 (I1.lay.scene hn0) fun fs s1 s2 s3 s4 s5=>?_
        refine jB (jc3 I1.lay ((congrArg (·[p.toNat]?) I1.cpl.rows).trans hx) (d+3)) fun r1 S1 L1 m1 e1=>?_
        refine jB (jnL L1 hx (d+4)) fun r2 S2 L2 m2 e2=>?_
        rw [m1.keep .world trivial trivial,m1.keep (.row p.toNat) hi trivial] at e2
        exact kq r2 _ _ S2 (I1.next L2 (m1.trans m2) (I1.cpl.drop hx) (.out hx) (k+1) (Nat.le_succ k)) (M1.trans (m1.trans m2)) (run _ (yD h12 _) _ (hscn) _ (s3) _ (e1) _ (e2) :)
       ·exact vO (jx7 I1 hk hx now (d+3)) fun r' b' w' S' I' M' e'=>kq r' b' w' S' I' (M1.trans M') (run _ (kD h12 _) _ (e') :)
end
end Mine.Law
end
section
open PySem
set_option maxHeartbeats 2000000
namespace Mine.Law
theorem jaZ {eq:AV→AV→Option Bool} {fs:List (AV×AV)}:∀ es:List (AV×AV),(∀ p∈es,j6 p.1 fs=some p.2∧eq p.2 p.2=some true)→wM eq fs es=some true
 | [],_=>rfl
 | (k,v)::r,h=>by
  have ih:=jaZ r fun p hp=>h p (List.mem_cons_of_mem _ hp)
  show (match j6 k fs with | none=>some false | some u=>match eq v u with | some true=>wM eq fs r | x=>x)=_
  rw [(h (k,v) List.mem_cons_self).1,ih]
  show (match eq v v with | some true=>some true | x=>x)=_
  rw [(h (k,v) List.mem_cons_self).2]
section
variable {S:St}
theorem eqV_vV (n:Nat) (v:Nat×Int):eqV S (n+2) (vV v) (vV v)=some true:=wI n [num v.1,v.2]
theorem eqV_fV (n:Nat) (v:Nat×Int):eqV S (n+2) (fV v) (fV v)=some true:=wI n [num v.1,v.2,2 - v.2]
theorem eqV_hV (n:Nat) (v:Nat×Int):eqV S (n+2) (yM v) (yM v)=some true:=wI n [num v.1,v.2]
theorem jsW (n:Nat) (t:T6):eqV S (n+2) (tV t) (tV t)=some true:=wI n [t.f,t.p,t.s,t.sp,t.d,t.dp]
theorem jrM {j k f g ep ep':Nat} {es fs:List (AV×AV)} (h1:S[j]? = some (.dict f es ep)) (h2:S[k]? = some (.dict g fs ep')):eqD S (.ref j) (.ref k)=some (if es.length=fs.length then (if f=g∨es=[] then wM (eqV S 6) fs es else none) else some false):=bnd (a:=j) rfl (bnd (a:=k) rfl (bnd (q9 h1) (mpp (q9 h2) rfl)))
theorem jlX {j k n:Nat} {es:List (AV×AV)} {o1 o2:AO} (h1:S[j]? = some o1) (d1:isD n es o1) (h2:S[k]? = some o2) (d2:isD n es o2) (hN:(es.map (·.1)).Nodup) (hv:∀ p∈es,eqV S 6 p.2 p.2=some true):xC S (.ref j) (.ref k)=some true:=by
 refine kE d1 fun f1 e1 r1 q1=>kE d2 fun f2 e2 r2 q2=>?_
 have hf:f1=f2∨es=[]:=q1.elim (fun q1=>q2.elim (fun q2=>.inl (q1.trans q2.symm)) fun q2=>.inr q2.2) fun q1=>.inr q1.2
 exact (congrArg (fun o=>Option.getD o _) (jrM (h1.trans (congrArg some r1)) (h2.trans (congrArg some r2)))).trans ((if_pos rfl).trans ((if_pos hf).trans (jaZ es fun p hp=>⟨zD hN (show (p.1,p.2)∈es from hp),hv p hp⟩)))
theorem gM {j k:Nat} {xs:List AV} (h1:S[j]? = some (.list xs)) (h2:S[k]? = some (.list xs)) (hv:∀ x∈xs,eqV S 5 x x=some true):xC S (.ref j) (.ref k)=some true:=(tY h1 h2).trans ((if_pos rfl).trans (wZ xs hv))
theorem cmpE {a z:AV} (h:xC S a z=some true):jO S .Eq a z=some true:=h
theorem cmpN {a z:AV} (h:xC S a z=some true):jO S .NotEq a z=some false:=mpp h rfl
end
section
variable {k:Nat} {r:Rl→Nat} {c:Cs} {b:B} {w:W} {S:St}
theorem jr1 {l:List Ent} (h:(l.map (·.1)).Nodup):((jeW l).map (·.1)).Nodup:=(List.map_map (l:=l)).symm▸jhO h
theorem jtM {l:List Ent} (h:(l.map (·.1)).Nodup):((flE l).map (·.1)).Nodup:=(List.map_map (l:=l)).symm▸jhO h
theorem Lay.sorted_wtalks (L:Lay r c b w S):jN "sorted" [.ref (r .wtalks)] S=some (.ref S.length,S++[.list ((kR w.wl).map fun i=>.int (num i))]):=by
 refine xEA (L.at_ .wtalks trivial) fun o hd1 hd2=>?_
 have hd3:isD 1 ((w.wl.map fun i=>(num i,AV.ref (r (.row i)))).map fun e=>(.int e.1,e.2)) o:=by
  rw [List.map_map];exact hd2
 rw [jg9 hd1 hd3 (by rw [List.length_map];exact Nat.le_trans L.gw.wln (by decide))]
 have:(w.wl.map fun i=>(num i,AV.ref (r (.row i)))).map (·.1)=w.wl.map num:=by simp
 rw [this,jb3,List.map_map]
 rfl
theorem jiE {p:Nat×Int} {y z:AV} {k:Nat} (h:S[k]? = some (.inst "Expect" [("master",.int (num p.1)),("t",y),("zone",z),("until",.int p.2)])):kG S (.ref k) "until" = some (.int p.2):=(jS h _).trans rfl
noncomputable def exV (b:B) (j:Nat):AV:=((b.exs[j]?).map yM).getD .none
theorem jeP (L:Lay r c b w S) (C:Cpl b w) (d:Nat):∃ Y,j1 prg (d+2) "_law_is_book" [.ref (r .world),.ref (r .book)] S=some (.bool true,S++Y):=by
 refine uN fun Gq kq=>?_
 refine xEA (jpG L d) fun oe e1 e2=>?_
 refine xEA (L.at_ .table trivial) fun ot t1 t2=>?_
 have L1:=L.app [oe]
 rw [C.ends] at e1
 have ht:=cmpN (jlX ((List.getElem?_append_left (j5 t1)).trans t1) t2 (jW S oe) e1 (jr1 C.tabN) fun p hp=>xEA (List.mem_map.1 hp) fun e _ q=>q▸eqV_vV 4 e.2)
 have hs1:=L1.sorted_talks
 rw [C.live] at hs1
 generalize hl:((kR w.wl).map fun i=>AV.int (num i))=l at *
 have L2:=L1.app [.list l]
 have hs2:=L2.sorted_wtalks
 rw [hl] at hs2
 have L3:=L2.app [.list l]
 have hl1:=jW (S++[oe]) (AO.list l)
 have hk:=cmpN (gM ((List.getElem?_append_left (j5 hl1)).trans hl1) (jW (S++[oe]++[AO.list l]) (AO.list l)) fun x hx=>by rw [← hl] at hx;exact xEA (List.mem_map.1 hx) fun i _ q=>q▸qU 4 _)
 refine xEA L2.world fun ow w1 w2=>?_
 have hB:=L.book
 have hB1:=L1.book
 generalize hT:S++[oe]++[AO.list l]++[AO.list l]=T at *
 have hB3:=L3.book
 refine xEA L3.world fun ow3 w3 w4=>?_
 refine xEA (L3.at_ .flows trivial) fun of f1 f2=>?_
 refine xEA (L3.at_ .wflows trivial) fun og g1 g2=>?_
 have hf:=cmpE (jlX f1 (C.fl▸f2:isD 4 (flE w.fl) of) g1 g2 (jtM L.gw.flN) fun p hp=>xEA (List.mem_map.1 hp) fun e _ q=>q▸eqV_fV 4 e.2)
 refine xEA (L3.at_ .exps trivial) fun ox x1 x2=>?_
 replace x1:=x1.trans (congrArg some x2)
 have hcomp:=wA (S0:=T) (g:=r .exps) (L3.lt trivial)
  (cond:=fun v S=>n7 (j1 prg (d+1)) [] [some (.ref (r .world)),some (.ref (r .book)),some v] S)
  (put:=fun v S=>(rE (j1 prg (d+1)) (.tup [.attr (.loc 2) "master",.attr (.loc 2) "until"]) [some (.ref (r .world)),some (.ref (r .book)),some v] S).bind fun u=>jbQ T.length u.1 u.2)
  (fun _=>true) (fun j=>.ref (r (.expect j))) (exV b) b.el []
  (fun j hj acc=>rfl)
  (fun j hj acc=>vQ (L3.expect hj) fun p y z q1 q2 q3=>bnd ((exq (j1 prg (d+1)) (.tup [.attr (.loc 2) "master",.attr (.loc 2) "until"]) [some (.ref (r .world)),some (.ref (r .book)),some (.ref (r (.expect j)))] (T++[AO.list acc]) _ (tL (q3 _)) _ (jiE (q3 _))).trans
   (congrArg (fun v=>some (v,T++[AO.list acc])) (congrArg (fun o:Option (Nat×Int)=>(o.map yM).getD .none) q1).symm)) rfl)
  (Nat.le_trans L.gb.small.2.2 (by decide))
 have hmap:(b.el.filter fun _=>true).map (exV b)=w.wh.map yM:=by
  have h2:b.el.map (exV b)=(b.el.map fun j=>b.exs[j]?).map fun o=>(o.map yM).getD .none:=(List.map_map (l:=b.el) (f:=fun j=>b.exs[j]?) (g:=fun o:Option (Nat×Int)=>(o.map yM).getD AV.none)).symm
  rw [List.filter_eq_self.2 fun _ _=>rfl,h2,C.hung,List.map_map]
  rfl
 rw [hmap,List.nil_append] at hcomp
 refine xEA (L3.at_ .hung trivial) fun oh h1 h2=>?_
 replace h1:=h1.trans (congrArg some h2)
 have hh:=cmpE (gM (jW T (.list (w.wh.map yM))) ((List.getElem?_append_left (j5 h1)).trans h1) fun x hx=>xEA (List.mem_map.1 hx) fun p _ q=>q▸eqV_hV 3 p)
 refine kq ⟨[oe,.list l,.list l,.list (w.wh.map yM)],?_⟩
 have hS:S++[oe,AO.list l,AO.list l,AO.list (w.wh.map yM)]=T++[AO.list (w.wh.map yM)]:=by rw [← hT,List.append_assoc,List.append_assoc,List.append_assoc];rfl
 rw [hS]
 exact (jfF (d+1) S (AV.ref (r Rl.world)) (AV.ref (r Rl.book)) _ (zE hB) _ (e2) _ (ht) _ (jM hB1) _ (hs1) _ (k8 w1 w2) _ (hs2) _ (hk) _ (zY hB3) _ (xI w3 w4) _ (hf) _ (wO hB3) _ (y9 x1) _ (kA rfl) _ (hcomp) _ (nF ((List.getElem?_append_left (j5 w3)).trans w3) w4) _ (hh) :)
end
end Mine.Law
end
section
open PySem
set_option maxHeartbeats 2000000
namespace Mine.Law
section
variable {r:Rl→Nat} {c:Cs} {b:B} {w:W} {S:St}
noncomputable def kP (i:Nat) (x:R):List AV:=[.int (num i),.int x.zone,.tup [tV x.a,tV x.b],.int x.st,.int x.un]
noncomputable def wG:List AV:=[.int 0,.int 0,.int 0,.int 0,.none]
theorem jcK (L:Lay r c b w S) (C:Cpl b w) (call:Callee):∀ (l:List Nat) (X:List AO) (e2 e3 e4 e5:Option AV),(∀ i∈l,i < w.rws.length)→
  ∃ Y e2' e3' e4' e5',loop (fun e S=>rB call zA e S) (.loc 2) none (l.map fun (i:Nat)=>AV.int (i:Int)) [some (.ref (r .world)),some (.ref (r .scenes)),e2,e3,e4,e5] (S++X)=some (.nx [some (.ref (r .world)),some (.ref (r .scenes)),e2',e3',e4',e5'] (S++Y))
 | [],X,e2,e3,e4,e5,_=>⟨X,e2,e3,e4,e5,rfl⟩
 | i::l,X,e2,e3,e4,e5,hl=>by
  have hi:=hl i List.mem_cons_self
  have hN:=L.gw.few
  have hN2:b.scn.length=w.rws.length:=by rw [C.scn,C.rows]
  obtain ⟨x,hx⟩:∃ x,w.rws[i]? = some x:=⟨w.rws[i],List.getElem?_eq_getElem hi⟩
  have hxb:b.tks[i]? = some x:=by rw [C.rows];exact hx
  have ext:∀ Z,Lay r c b w (S++Z):=fun Z=>L.app Z
  have hT:∀ Z,(S++Z)[r (.talk i)]? = some (kJ i x):=fun Z=>(ext Z).talk hxb
  have hsc:∀ Z,k9 (S++Z) (.ref (r .scenes)) (.int (i:Int))=some (.ref (r (.scene i))):=fun Z=>by
   have:=(ext Z).sub_scenes (p:=(i:Int)) (by lia) (by lia) (by lia)
   rwa [Int.toNat_natCast] at this
  have hsr:∀ Z,k9 (S++Z) (.ref (r .wrows)) (.int (i:Int))=some (.ref (r (.row i))):=fun Z=>by
   have:=(ext Z).sub_rows (p:=(i:Int)) (by lia) (by lia)
   rwa [Int.toNat_natCast] at this
  obtain ⟨n0,hn0⟩:∃ n0,b.scn[i]? = some n0:=⟨b.scn[i]'(by lia),List.getElem?_eq_getElem _⟩
  have hst:∀ Z,kG (S++Z) (.ref (r (.scene i))) "talk" = some (.ref (r (.talk i))):=fun Z=>by
   refine ja4 ((ext Z).scene hn0) fun fs _ _ s3 _ _=>?_
   exact s3
  have hwr:∀ Z,k9 (S++Z) (.ref (r .world)) (.str "rows")=some (.ref (r .wrows)):=fun Z=>by
   refine xEA ((ext Z).world) fun o w1 w2=>?_
   exact zZ w1 w2
  have hrw:∀ Z,∃ o,(S++Z)[r (.row i)]? = some o∧isD 2 (m4 i x) o:=fun Z=>(ext Z).row hx
  have q1:∀ Z,k9 (S++Z) (.ref (r (.row i))) (.str "number")=some (.int (num i)):=fun Z=>by
   refine xEA (hrw Z) fun o o1 o2=>?_;exact qD o1 o2
  have q2:∀ Z,k9 (S++Z) (.ref (r (.row i))) (.str "zone")=some (.int x.zone):=fun Z=>by
   refine xEA (hrw Z) fun o o1 o2=>?_;exact qX o1 o2
  have q3:∀ Z,k9 (S++Z) (.ref (r (.row i))) (.str "ends")=some (.tup [tV x.a,tV x.b]):=fun Z=>by
   refine xEA (hrw Z) fun o o1 o2=>?_;exact vH o1 o2
  have q4:∀ Z,k9 (S++Z) (.ref (r (.row i))) (.str "status")=some (.int x.st):=fun Z=>by
   refine xEA (hrw Z) fun o o1 o2=>?_;exact qF o1 o2
  have q5:∀ Z,k9 (S++Z) (.ref (r (.row i))) (.str "until")=some (.int x.un):=fun Z=>by
   refine xEA (hrw Z) fun o o1 o2=>?_;exact w6 o1 o2
  have seqx:∀ (T:St) (a b:AV),yE T (.tup [a,b])=some [a,b]:=fun _ _ _=>rfl
  have a1:∀ Z,S++Z++[AO.list (kP i x)]=S++(Z++[.list (kP i x)]):=fun Z=>List.append_assoc ..
  have hA:∀ x1∈kP i x,∀ T,eqV T 5 x1 x1=some true:=fun x1 h1 T=>by
   simp only [kP,List.mem_cons,List.not_mem_nil,or_false] at h1
   rcases h1 with rfl | rfl | rfl | rfl | rfl
   ·exact qU 4 _
   ·exact qU 4 _
   ·exact jpE 4 _ (by
     intro y hy
     simp only [List.mem_cons,List.not_mem_nil,or_false] at hy
     rcases hy with rfl | rfl
     ·exact jsW 2 _
     ·exact jsW 2 _)
   ·exact qU 4 _
   ·exact qU 4 _
  have hZ:∀ x1∈wG,∀ T,eqV T 5 x1 x1=some true:=fun x1 h1 T=>by
   simp only [wG,List.mem_cons,List.not_mem_nil,or_false] at h1
   rcases h1 with rfl | rfl | rfl | rfl | rfl
   ·exact qU 4 _
   ·exact qU 4 _
   ·exact qU 4 _
   ·exact qU 4 _
   ·rfl
  have c1:jO (S++X++[AO.list (kP i x)]++[AO.list (kP i x)]) .NotEq (.ref (S++X).length) (.ref (S++X++[AO.list (kP i x)]).length)=some false:=cmpN (gM (xs:=kP i x) (by simp) (by simp) fun y hy=>hA y hy _)
  have c2:jO (S++X++[AO.list (kP i x)]++[AO.list (kP i x)]++[AO.list wG]++[AO.list wG]) .NotEq (.ref (S++X++[AO.list (kP i x)]++[AO.list (kP i x)]).length) (.ref (S++X++[AO.list (kP i x)]++[AO.list (kP i x)]++[AO.list wG]).length)=some false:=cmpN (gM (xs:=wG) (by simp) (by simp) fun y hy=>hZ y hy _)
  have f1:S++X++[AO.list (kP i x)]=S++(X++[AO.list (kP i x)]):=by simp
  have f2:S++X++[AO.list (kP i x)]++[AO.list (kP i x)]=S++(X++[AO.list (kP i x),AO.list (kP i x)]):=by simp
  have f4:S++X++[AO.list (kP i x)]++[AO.list (kP i x)]++[AO.list wG]++[AO.list wG]=S++(X++[AO.list (kP i x),AO.list (kP i x),AO.list wG,AO.list wG]):=by simp
  refine jvH (jcK L C call l (X++[AO.list (kP i x),AO.list (kP i x),AO.list wG,AO.list wG]) (some (.int (i:Int))) (some (.ref (S++X).length)) (some (.ref (r (.talk i)))) (some (.ref (r (.row i)))) (fun j hj=>hl j (List.mem_cons_of_mem _ hj))) fun Y e2' e3' e4' e5' ih=>?_
  refine ⟨Y,e2',e3',e4',e5',?_⟩
  rw [← f4] at ih
  have g1:=jX (hT X)
  have g2:=qH (hT X)
  have g3:=qP (hT X)
  have g4:=x9 (hT X)
  have g5:=yR (hT X)
  have g6:=uW (hT X)
  have q1':=q1 (X++[AO.list (kP i x)])
  have q2':=q2 (X++[AO.list (kP i x)])
  have q3':=q3 (X++[AO.list (kP i x)])
  have q4':=q4 (X++[AO.list (kP i x)])
  have q5':=q5 (X++[AO.list (kP i x)])
  rw [← f1] at q1' q2' q3' q4' q5'
  simp only [kP] at q1' q2' q3' q4' q5' c1 c2
  have k1:=jmP (hT (X++[AO.list (kP i x),AO.list (kP i x)]))
  have k2:=jqZ (hT (X++[AO.list (kP i x),AO.list (kP i x)]))
  have k3:=jo1 (hT (X++[AO.list (kP i x),AO.list (kP i x)]))
  have k4:=jjI (hT (X++[AO.list (kP i x),AO.list (kP i x)]))
  have k5:=jmR (hT (X++[AO.list (kP i x),AO.list (kP i x)]))
  rw [← f2] at k1 k2 k3 k4 k5
  simp only [kP] at k1 k2 k3 k4 k5
  simp only [wG] at c2
  rw [List.map_cons]
  refine jK rfl ?_ rfl ih
  exact (blk call zA (Ev.put [some (AV.ref (r Rl.world)),some (AV.ref (r Rl.scenes)),e2,e3,e4,e5] 2 (AV.int ↑i)) (S++X) _ (hsc X) _ (hst X) _ (hwr X) _ (hsr X) _ (m6 _ _ (S++X)) _ (g1) _ (g2) _ (g3) _ (g4) _ (g5) _ (g6) _ (q1') _ (q2') _ (q3') _ (q4') _ (q5') _ (c1) _ (k1) _ (k2) _ (k3) _ (k4) _ (k5) _ (c2) :)
theorem jiF (L:Lay r c b w S) (C:Cpl b w) (d:Nat):∃ Y,j1 prg (d+1) "_law_are_talks" [.ref (r .world),.ref (r .scenes)] S=some (.bool true,S++Y):=by
 have hN:=L.gw.few
 have hN2:b.scn.length=w.rws.length:=by rw [C.scn,C.rows]
 refine jvH (jcK L C (j1 prg d) (List.range w.rws.length) [] none none none none (fun i hi=>List.mem_range.1 hi)) fun Y e2' e3' e4' e5' e=>?_
 refine ⟨Y,?_⟩
 have hlen:jN "len" [.ref (r .scenes)] S=some (.int w.rws.length,S):=by
  have:=L.len_scenes (by lia)
  rw [hN2] at this;exact this
 have hr':decide ((0:Int)≤(w.rws.length:Int)∧(w.rws.length:Int)≤1000)=true:=decide_eq_true (by lia)
 have hit:jR (w.rws.length:Int)=(List.range w.rws.length).map fun (i:Nat)=>AV.int (i:Int):=by simp only [jR,Int.toNat_natCast]
 rw [List.append_nil] at e
 rw [← hit] at e
 exact (jbY d S (AV.ref (r Rl.world)) (AV.ref (r Rl.scenes)) _ (hlen) _ (kA hr') _ (e) :)
end
end Mine.Law
end
section
open PySem
namespace Mine.Law
noncomputable def dU:AO:=.dict 2 [(.str "begin",.fn "begin_any"),(.str "go",.fn "go_udp")] 2
noncomputable def dI:AO:=.dict 2 [(.str "begin",.fn "begin_icmp"),(.str "go",.fn "go_icmp"),(.str "error",.fn "error_talk")] 3
noncomputable def dJ:AO:=.dict 2 [(.str "begin",.fn "begin_icmp"),(.str "go",.fn "go_icmp"),(.str "error",.fn "error_or_near")] 3
noncomputable def dT:AO:=.dict 2 [(.str "begin",.fn "begin_tcp"),(.str "go",.fn "go_tcp")] 2
noncomputable def dG:AO:=.dict 2 [(.str "begin",.fn "begin_any"),(.str "go",.fn "go_plain")] 2
noncomputable def dA:AO:=.dict 1 [(.int 17,.ref 14),(.int 1,.ref 16),(.int 58,.ref 17),(.int 6,.ref 19),(.int (-1),.ref 21)] 5
noncomputable def kW (mo se:AV) (G:Nat→AO):St:=[G 0,G 1,G 2,G 3,G 4,G 5,vK ⟨mo,se,.ref 12⟩ 7 8 10 11,.dict 0 [] 0,.dict 0 [] 0,G 9,.list [],.dict 0 [] 0,dA,G 13,dU,G 15,dI,dJ,G 18,dT,G 20,dG]
noncomputable def full (n:Nat) (mo se:AV) (G:Nat→AO):St:=kW mo se G++(List.range n).map fun i=>G (22+i)
theorem jpR {mo se:AV} {G:Nat→AO} {T:St} {n:Nat} (h:T.take 22=kW mo se G) (hl:T.length=22+n):∃ G',T=full n mo se G':=by
 refine ⟨fun i=>if i < 22 then G i else T[i]?.getD (.ba []),?_⟩
 have hd:T.drop 22=(List.range n).map fun i=>if 22+i < 22 then G (22+i) else T[22+i]?.getD (.ba []):=by
  apply List.ext_getElem?
  intro i
  rw [List.getElem?_drop,List.getElem?_map]
  rcases Nat.lt_or_ge i n with q | q
  ·rw [List.getElem?_range q,Option.map_some,if_neg (Nat.not_lt.2 (Nat.le_add_right _ _)),List.getElem?_eq_getElem (hl▸Nat.add_lt_add_left q 22)];rfl
  ·rw [List.getElem?_eq_none (hl▸Nat.add_le_add_left q 22),List.getElem?_eq_none (by rw [List.length_range];exact q)];rfl
 conv=>lhs;rw [← List.take_append_drop 22 T,h,hd]
 rfl
theorem jrV (n:Nat) (mo se:AV) (G:Nat→AO):(full n mo se G).length=22+n:=by rw [full,List.length_append,List.length_map,List.length_range];rfl
theorem ja8 (n:Nat) (mo se:AV) (G:Nat→AO):(full n mo se G).take 22=kW mo se G:=List.take_left' rfl
noncomputable def vw:Option (AV×St)→Option (AV×St×Option AO×Option AO×Nat)
 | some (v,S)=>some (v,S.take 22,S[S.length - 2]?,S[S.length - 1]?,S.length)
 | none=>none
theorem vw_inv {o:Option (AV×St)} {v:AV} {B:St} {a b:Option AO} {m:Nat} (h:vw o=some (v,B,a,b,m)):∃ S2,o=some (v,S2)∧S2.take 22=B∧S2[m - 2]? = a∧S2[m - 1]? = b∧S2.length=m:=match o,h with
 | some (v,S),h=>by cases h;exact ⟨S,rfl,rfl,rfl,rfl,rfl⟩
noncomputable def trk (p kind:Int) (c:Int×Int×Int) (S:St):Option (AV×St):=j1 prg 9 "_law_does_track" [.ref 6,.int p,.int kind,.int c.1,.int c.2.1,.int c.2.2] S
noncomputable def ps2:List AV:=[.str "begin",.str "go"]
noncomputable def ps3:List AV:=[.str "begin",.str "error",.str "go"]
noncomputable def allF:List Int:=[2,16,4,0]
noncomputable def allK:List Int:=[8,0,13,14,15,16,17,18,128,129,135,1]
noncomputable def c17:List (Int×Int×Int):=allF.flatMap fun f=>[(f,0,0),(f,0,2000),(f,0,2001),(f,0,90000),(f,2,0),(f,2,2000),(f,2,2001),(f,2,90000)]
noncomputable def t17 (c:Int×Int×Int):List AV:=if c.2.1=2∧c.2.2 > 2000 then [.bool true,.int 5000,.str "ok",.int (5000+c.2.2+120000),.int 6,.int 0] else [.bool true,.int 5000,.str "ok",.int (5000+c.2.2+30000),.int c.2.1,.int 0]
noncomputable def told (mo se:AV) (G:Nat→AO) (ps t:List AV) (k:Nat):Option (AV×St×Option AO×Option AO×Nat):=some (.ref (k+1),kW mo se G,some (.list ps),some (.list (.ref k::t)),k+2)
theorem k17 (kind:Int) (mo se:AV) (G:Nat→AO):(c17.map fun c=>vw (trk 17 kind c (full 7 mo se G)))=c17.map fun c=>told mo se G ps2 (t17 c) 37:=by kernel_rfl
noncomputable def may1 (kind:Int):Bool:=decide (kind=8∨kind=13∨kind=15∨kind=17)
noncomputable def jp8 (kind:Int):Bool:=decide (kind=128)
noncomputable def tic (may:Bool) (st gap:Int):List AV:=[.bool may,.int 5000,.str "ok",.int (5000+gap+30000),.int st,.int 0]
theorem jpL {α β:Type} (k:Nat) {l:List α} {f g:α→β} (h1:(l.take k).map f=(l.take k).map g) (h2:(l.drop k).map f=(l.drop k).map g):l.map f=l.map g:=by
 have:=congr (congrArg HAppend.hAppend h1) h2
 rw [← List.map_append,← List.map_append,List.take_append_drop] at this
 exact this
theorem k1a (st gap:Int) (mo se:AV) (G:Nat→AO):((allK.take 6).map fun kind=>allF.map fun f=>vw (trk 1 kind (f,st,gap) (full 19 mo se G)))=(allK.take 6).map fun kind=>allF.map fun _=>told mo se G ps3 (tic (may1 kind) st gap) 49:=by kernel_rfl
theorem k1b (st gap:Int) (mo se:AV) (G:Nat→AO):((allK.drop 6).map fun kind=>allF.map fun f=>vw (trk 1 kind (f,st,gap) (full 19 mo se G)))=(allK.drop 6).map fun kind=>allF.map fun _=>told mo se G ps3 (tic (may1 kind) st gap) 49:=by kernel_rfl
theorem k1 (st gap:Int) (mo se:AV) (G:Nat→AO):(allK.map fun kind=>allF.map fun f=>vw (trk 1 kind (f,st,gap) (full 19 mo se G)))=allK.map fun kind=>allF.map fun _=>told mo se G ps3 (tic (may1 kind) st gap) 49:=jpL 6 (k1a st gap mo se G) (k1b st gap mo se G)
theorem k58a (st gap:Int) (mo se:AV) (G:Nat→AO):((allK.take 6).map fun kind=>allF.map fun f=>vw (trk 58 kind (f,st,gap) (full 31 mo se G)))=(allK.take 6).map fun kind=>allF.map fun _=>told mo se G ps3 (tic (jp8 kind) st gap) 61:=by kernel_rfl
theorem k58b (st gap:Int) (mo se:AV) (G:Nat→AO):((allK.drop 6).map fun kind=>allF.map fun f=>vw (trk 58 kind (f,st,gap) (full 31 mo se G)))=(allK.drop 6).map fun kind=>allF.map fun _=>told mo se G ps3 (tic (jp8 kind) st gap) 61:=by kernel_rfl
theorem k58 (st gap:Int) (mo se:AV) (G:Nat→AO):(allK.map fun kind=>allF.map fun f=>vw (trk 58 kind (f,st,gap) (full 31 mo se G)))=allK.map fun kind=>allF.map fun _=>told mo se G ps3 (tic (jp8 kind) st gap) 61:=jpL 6 (k58a st gap mo se G) (k58b st gap mo se G)
noncomputable def n6 (f:Int):Nat:=if f=2 then 17 else if f=16 then 16 else 12
noncomputable def t6 (f st gap:Int):List AV:=if f=2 then [.bool true,.int 0,.str "ok",.int (5000+gap+120000),.int st,.int 1] else if f=16 then [.bool true,.int 0,.str "ok",.int (5000+gap+if st=2 then 432000000 else 300000),.int st,.int 3] else [.bool false,.int 0,.str "invalid",.int 0,.int st,.int 0]
theorem k6 (kind gap:Int) (mo se:AV) (G:Nat→AO):(allF.map fun f=>[(0:Int),2].map fun st=>vw (trk 6 kind (f,st,gap) (full 43 mo se G)))=allF.map fun f=>[(0:Int),2].map fun st=>told mo se G ps2 (t6 f st gap) (63+n6 f):=by kernel_rfl
noncomputable def allP:List Int:=[47,132,0,50]
noncomputable def tpl (st gap:Int):List AV:=[.bool true,.int 5000,.str "ok",.int (5000+gap+600000),.int st,.int 0]
theorem kpl (kind st gap:Int) (mo se:AV) (G:Nat→AO):(allF.map fun f=>allP.map fun p=>vw (trk p kind (f,st,gap) (full (45+n6 f) mo se G)))=allF.map fun f=>allP.map fun _=>told mo se G ps2 (tpl st gap) (75+n6 f):=by kernel_rfl
noncomputable def endV (n:Nat) (k:Int) (e1 e2 e3 e5 e6 e7 e8 e9:Option AV) (mo se:AV) (G:Nat→AO):Option (AV×St):=(rB (j1 prg 9) (i_law_are_trackers.drop 4) [some (.ref 6),e1,e2,e3,some (.int k),e5,e6,e7,e8,e9] (full (57+n) mo se G)).map fun o=>o.on (fun _ S=>(AV.none,S.take 22)) fun v S=>(v,S.take 22)
noncomputable def near5:List Int:=[0,1,2,3,4]
theorem kend17 (e1 e2 e3 e5 e6 e7 e8 e9:Option AV) (mo se:AV) (G:Nat→AO):(near5.map fun k=>endV 17 k e1 e2 e3 e5 e6 e7 e8 e9 mo se G)=near5.map fun _=>some (.bool true,kW mo se G):=by kernel_rfl
theorem kend16 (e1 e2 e3 e5 e6 e7 e8 e9:Option AV) (mo se:AV) (G:Nat→AO):(near5.map fun k=>endV 16 k e1 e2 e3 e5 e6 e7 e8 e9 mo se G)=near5.map fun _=>some (.bool true,kW mo se G):=by kernel_rfl
theorem kend12 (e1 e2 e3 e5 e6 e7 e8 e9:Option AV) (mo se:AV) (G:Nat→AO):(near5.map fun k=>endV 12 k e1 e2 e3 e5 e6 e7 e8 e9 mo se G)=near5.map fun _=>some (.bool true,kW mo se G):=by kernel_rfl
end Mine.Law
end
section
open PySem
set_option maxHeartbeats 2000000
namespace Mine.Law
noncomputable def xH:AV→Bool
 | .bool _=>true
 | .int _=>true
 | .str _=>true
 | _=>false
section
variable {S S2:St}
theorem jlP {n:Nat}:∀ {x:AV},xH x=true→eqV S (n+1) x x=some true
 | .bool b,_=>congrArg some (beq_self_eq_true b)
 | .int i,_=>congrArg some (decide_eq_true rfl)
 | .str i,_=>congrArg some (decide_eq_true rfl)
theorem jdL {n:Nat}:∀ {xs:List AV},xs.all xH=true→jU (eqV S (n+1)) xs xs=some true
 | [],_=>rfl
 | x::xs,h=>by
  show (match eqV S (n+1) x x,jU (eqV S (n+1)) xs xs with | some a,some b=>some (a&&b) | _,_=>none)=_
  rw [jlP (j4 h).1,jdL (j4 h).2];rfl
theorem jv9 {n a b:Nat} {xs ys:List AV} (h1:S[a]? = some (.list xs)) (h2:S[b]? = some (.list ys)) (hl:xs.length=ys.length) (he:jU (eqV S n) xs ys=some true):eqV S (n+1) (.ref a) (.ref b)=some true:=(jjP h1 h2).trans ((if_pos hl).trans he)
theorem jo8 (call:Callee):∀ (xs:List IS) {ys:List IS} {env:Ev} {S:St} {o:Option Out} {e:Ev} {S1:St},rB call xs env S=some (.nx e S1)→rB call ys e S1=o→rB call (xs++ys) env S=o
 | [],_,_,_,_,_,_,h,k=>by cases h;exact k
 | x::xs,ys,env,S,o,e,S1,h,k=>by
  cases hx:rS call x env S with
  | none=>rw [show rB call (x::xs) env S=(rS call x env S).bind _ from rfl,hx] at h;cases h
  | some o1=>
   have h:(rS call x env S).bind _=_:=h
   rw [hx] at h
   refine bnd hx ?_
   cases o1 with
   | nx e1 S2=>exact jo8 call xs h k
   | rt v S2=>cases h
theorem stage {p kind flags b gap:Int} {dr pl ne:Option AV} {told:Option AV} {ps t:List AV} {k:Nat}
  (h1:j1 prg 9 "_law_does_track" [.ref 6,.int p,.int kind,.int flags,.int (2*b),.int gap] S=some (.ref (k+1),S2)) (hl:S2.length=k+2) (hk:S2[k]? = some (.list ps)) (hj:S2[k+1]? = some (.list (.ref k::t)))
  (h2:∀ T:St,j1 prg 9 "_law_due" [.int p,.int kind,.int flags,.int (2*b),.int gap] T=some (.ref (T.length+1),T++[.list ps,.list (.ref T.length::t)])) (hp:ps.all xH=true) (ht:t.all xH=true) :
  ∃ Y,Y.length=2∧rB (j1 prg 9) kL [some (.ref 6),dr,some (.int kind),some (.int p),ne,some (.int flags),some (.int b),some (.int gap),pl,told] S=some (.nx [some (.ref 6),dr,some (.int kind),some (.int p),ne,some (.int flags),some (.int b),some (.int gap),pl,some (.ref (k+1))] (S2++Y)):=by
 refine ⟨[.list ps,.list (.ref S2.length::t)],rfl,?_⟩
 have hb:∀ S,zK .Mult (.int 2) (.int b) S=some (.int (2*b),S):=fun S=>vB (x:=2) (by decide) b S
 have old:∀ {i:Nat} {o:AO},S2[i]? = some o→(S2++[AO.list ps,.list (.ref S2.length::t)])[i]? = some o:=fun {i o} h=>(List.getElem?_append_left (j5 h)).trans h
 have new0:(S2++[AO.list ps,.list (.ref S2.length::t)])[S2.length]? = some (.list ps):=by rw [List.getElem?_append_right (Nat.le_refl _),Nat.sub_self];rfl
 have new1:(S2++[AO.list ps,.list (.ref S2.length::t)])[S2.length+1]? = some (.list (.ref S2.length::t)):=by rw [List.getElem?_append_right (Nat.le_add_right _ 1),Nat.add_sub_cancel_left];rfl
 have q:jU (eqV (S2++[AO.list ps,.list (.ref S2.length::t)]) 5) (.ref k::t) (.ref S2.length::t)=some true:=by
  show (match eqV _ 5 (.ref k) (.ref S2.length),jU (eqV _ 5) t t with | some a,some b=>some (a&&b) | _,_=>none)=_
  rw [jv9 (old hk) new0 rfl (jdL hp),jdL ht];rfl
 have hc:jO (S2++[AO.list ps,.list (.ref S2.length::t)]) .NotEq (.ref (k+1)) (.ref (S2.length+1))=some false:=by
  exact cmpN ((tY (old hj) new1).trans ((if_pos rfl).trans q))
 exact (blk (j1 prg 9) kL [some (AV.ref 6),dr,some (AV.int kind),some (AV.int p),ne,some (AV.int flags),some (AV.int b),some (AV.int gap),pl,told] S _ (hb _) _ (h1) _ (hb _) _ (h2 _) _ (hc) :)
end
noncomputable def due (p k:Int) (fl st g:AV) (T:St):Option (AV×St):=j1 prg 9 "_law_due" [.int p,.int k,fl,st,g] T
noncomputable def jm0 (ps t:List AV) (T:St):Option (AV×St):=some (.ref (T++[AO.list ps]).length,T++[.list ps]++[.list (.ref T.length::t)])
noncomputable def st2:List Int:=[0,2]
noncomputable def gaps:List Int:=[0,2000,2001,90000]
theorem due17 (T:St) (f:Int):(allK.map fun k=>st2.map fun st=>gaps.map fun g=>due 17 k (.int f) (.int st) (.int g) T)=allK.map fun _=>st2.map fun st=>gaps.map fun g=>jm0 ps2 (t17 (f,st,g)) T:=by kernel_rfl
theorem due1 (T:St) (f st g:Int):(allK.map fun k=>due 1 k (.int f) (.int st) (.int g) T)=allK.map fun k=>jm0 ps3 (tic (may1 k) st g) T:=by kernel_rfl
theorem due58 (T:St) (f st g:Int):(allK.map fun k=>due 58 k (.int f) (.int st) (.int g) T)=allK.map fun k=>jm0 ps3 (tic (jp8 k) st g) T:=by kernel_rfl
theorem due6 (T:St) (k g:Int):(allF.map fun f=>st2.map fun st=>due 6 k (.int f) (.int st) (.int g) T)=allF.map fun f=>st2.map fun st=>jm0 ps2 (t6 f st g) T:=by kernel_rfl
theorem duepl (T:St) (f st g:Int):(allK.map fun k=>allP.map fun p=>due p k (.int f) (.int st) (.int g) T)=allK.map fun _=>allP.map fun _=>jm0 ps2 (tpl st g) T:=by kernel_rfl
end Mine.Law
end
section
open PySem
set_option maxHeartbeats 2000000
namespace Mine.Law
theorem juW {r:Row} (h:zN r.x prg=some r) (hc:r.isC=false) {as:List AV} (hn:r.okN as.length=true) {d:Nat} {S:St} {o:Out} (hb:rB (j1 prg d) r.is (r.env as) S=some o):j1 prg (d+1) r.x as S=some (o.on (fun _ S1=>(.none,S1)) fun v S1=>(v,S1)):=by
 refine bnd h ?_
 rw [hc,hn]
 exact mpp hb rfl
theorem jxB (ps t:List AV) (T:St):jm0 ps t T=some (.ref (T.length+1),T++[.list ps,.list (.ref T.length::t)]):=by rw [jm0,List.length_append,List.append_assoc];rfl
theorem next {mo se:AV} {G:Nat→AO} {m k:Nat} {S2:St} {Y:List AO} (h:S2.take 22=kW mo se G) (hl:S2.length=k+2) (hY:Y.length=2) (hn:k+4=22+m):∃ G',S2++Y=full m mo se G'∧kW mo se G'=kW mo se G:=by
 have hle:22≤S2.length:=Nat.le_trans (Nat.le_of_eq ((congrArg List.length h).symm.trans List.length_take)) (Nat.min_le_right _ _)
 have ht:(S2++Y).take 22=kW mo se G:=(List.take_append_of_le_length hle).trans h
 exact xE (jpR ht (n:=m) (by rw [List.length_append,hl,hY];exact hn)) fun G' e=>⟨G',e,by rw [← ja8 m mo se G',← e];exact ht⟩
theorem jmO {α:Type} {P:α→Prop} {c:Prop} [d:Decidable c] {a b:α} (ha:P a) (hb:P b):P (ite c a b):=match d with
 | .isTrue _=>ha
 | .isFalse _=>hb
theorem flat17 (c:Int×Int×Int):(t17 c).all xH=true:=jmO (P:=fun l:List AV=>l.all xH=true) rfl rfl
theorem flat6 (f st g:Int):(t6 f st g).all xH=true:=jmO (P:=fun l:List AV=>l.all xH=true) rfl (jmO (P:=fun l:List AV=>l.all xH=true) rfl rfl)
theorem jp4 {α:Type} {a b:α} {l m:List α} (h:a=b) (k:l=m):a::l=b::m:=h▸k▸rfl
theorem kend {f k:Int} (hf:f∈allF) (hk:k∈near5) (e1 e2 e3 e5 e6 e7 e8 e9:Option AV) (mo se:AV) (G:Nat→AO):endV (n6 f) k e1 e2 e3 e5 e6 e7 e8 e9 mo se G=some (.bool true,kW mo se G):=
 List.map_inj_left.1 (List.map_inj_left.1 (show (allF.map fun f=>near5.map fun k=>endV (n6 f) k e1 e2 e3 e5 e6 e7 e8 e9 mo se G)=allF.map fun _=>near5.map fun _=>some (.bool true,kW mo se G) from
  jp4 (kend17 e1 e2 e3 e5 e6 e7 e8 e9 mo se G) (jp4 (kend16 e1 e2 e3 e5 e6 e7 e8 e9 mo se G) (congrArg (fun x=>[x,x]) (kend12 e1 e2 e3 e5 e6 e7 e8 e9 mo se G)))) f hf) k hk
theorem mem17 {f b g:Int} (hf:f∈allF) (hb:2*b∈st2) (hg:g∈gaps):(f,2*b,g)∈c17:=
 show (f,2*b,g)∈allF.flatMap fun f=>st2.flatMap fun s=>gaps.map fun g=>(f,s,g) from List.mem_flatMap.2 ⟨f,hf,List.mem_flatMap.2 ⟨_,hb,List.mem_map.2 ⟨g,hg,rfl⟩⟩⟩
theorem jxF {b:Int} (h0:0≤b) (h1:b < 2):2*b∈st2:=
 List.mem_map (l:=List.range 2) (f:=fun n=>2*Int.ofNat n).2 ⟨b.toNat,List.mem_range.2 ((Int.toNat_lt h0).2 h1),congrArg (2 * ·) (Int.toNat_of_nonneg h0)⟩
noncomputable abbrev envR (draw kind p ne f b g pl:Int) (t:Option AV):Ev:=[some (.ref 6),some (.int draw),some (.int kind),some (.int p),some (.int ne),some (.int f),some (.int b),some (.int g),some (.int pl),t]
theorem round {mo se:AV} {G:Nat→AO} {S:St} {draw kind p ne f b g pl:Int} {o:Option AV} {ps t:List AV} {k m:Nat} (h:vw (trk p kind (f,2*b,g) S)=told mo se G ps t k)
  (h2:∀ T,due p kind (.int f) (.int (2*b)) (.int g) T=jm0 ps t T) (hp:ps.all xH=true) (ht:t.all xH=true) (hn:k+4=22+m) :
  ∃ G',rB (j1 prg 9) kL (envR draw kind p ne f b g pl o) S=some (.nx (envR draw kind p ne f b g pl (some (.ref (k+1)))) (full m mo se G'))∧kW mo se G'=kW mo se G:=
 ja4 (vw_inv h) fun A a1 a2 a3 a4 a5=>xEA (stage a1 a5 a3 a4 (fun T=>(h2 T).trans (jxB _ _ T)) hp ht) fun Y y s=>xEA (next a2 a5 y hn) fun G' q r=>⟨G',q▸s,r⟩
theorem jkZ (mo se:AV) (G:Nat→AO) (draw:Int):∃ T,j1 prg 10 "_law_are_trackers" [.ref 6,.int draw] (full 5 mo se G)=some (.bool true,T)∧T.take 22=kW mo se G:=by
 have hd:=uR (S:=full 5 mo se G) [12,4,2,4,4,5] (by decide) (by decide) draw 8
 have e1:mM draw [12,4,2,4,4,5]=[Int.fmod draw 12,Int.fmod (Int.fdiv draw 12) 4,Int.fmod (Int.fdiv (Int.fdiv draw 12) 4) 2,Int.fmod (Int.fdiv (Int.fdiv (Int.fdiv draw 12) 4) 2) 4,Int.fmod (Int.fdiv (Int.fdiv (Int.fdiv (Int.fdiv draw 12) 4) 2) 4) 4,Int.fmod (Int.fdiv (Int.fdiv (Int.fdiv (Int.fdiv (Int.fdiv draw 12) 4) 2) 4) 4) 5]:=rfl
 rw [e1] at hd
 revert hd
 refine xA (jH draw (b:=12) (by decide)) fun k0 k1'=>?_
 refine xA (jH (Int.fdiv draw 12) (b:=4) (by decide)) fun f0 f1=>?_
 refine xA (jH (Int.fdiv (Int.fdiv draw 12) 4) (b:=2) (by decide)) fun b0 b1=>?_
 refine xA (jH (Int.fdiv (Int.fdiv (Int.fdiv draw 12) 4) 2) (b:=4) (by decide)) fun g0 g1=>?_
 refine xA (jH (Int.fdiv (Int.fdiv (Int.fdiv (Int.fdiv draw 12) 4) 2) 4) (b:=4) (by decide)) fun p0 p1=>?_
 refine xA (jH (Int.fdiv (Int.fdiv (Int.fdiv (Int.fdiv (Int.fdiv draw 12) 4) 2) 4) 4) (b:=5) (by decide)) fun n0 n1=>?_
 generalize Int.fmod (Int.fdiv (Int.fdiv (Int.fdiv (Int.fdiv (Int.fdiv draw 12) 4) 2) 4) 4) 5=nd at *
 generalize Int.fmod (Int.fdiv (Int.fdiv (Int.fdiv (Int.fdiv draw 12) 4) 2) 4) 4=pd at *
 generalize Int.fmod (Int.fdiv (Int.fdiv (Int.fdiv draw 12) 4) 2) 4=gd at *
 generalize Int.fmod (Int.fdiv (Int.fdiv draw 12) 4) 2=b at *
 generalize Int.fmod (Int.fdiv draw 12) 4=fd at *
 generalize Int.fmod draw 12=kd at *
 intro hd
 have hseq:=jaE (S:=full 5 mo se G) (AO.list [.int 12,.int 4,.int 2,.int 4,.int 4,.int 5]) [.int kd,.int fd,.int b,.int gd,.int pd,.int nd]
 refine xEA (pick (l:=allK) k0 k1' rfl) fun k hk sk=>?_
 refine xEA (pick (l:=allF) f0 f1 rfl) fun f hf sf=>?_
 refine xEA (pick (l:=gaps) g0 g1 rfl) fun g hg sg=>?_
 refine xEA (pick (l:=allP) p0 p1 rfl) fun p hp sp=>?_
 have hb:=jxF b0 b1
 refine xEA (next (Y:=[AO.list [.int 12,.int 4,.int 2,.int 4,.int 4,.int 5],AO.list [.int kd,.int fd,.int b,.int gd,.int pd,.int nd]]) (ja8 5 mo se G) (k:=25) (m:=7) (jrV 5 mo se G) rfl rfl) fun G0 q0 r0=>?_
 have as7:full 5 mo se G++[AO.list [.int 12,.int 4,.int 2,.int 4,.int 4,.int 5]]++[AO.list [.int kd,.int fd,.int b,.int gd,.int pd,.int nd]]=full 7 mo se G0:=(List.append_assoc ..).trans q0
 replace hseq:=as7▸hseq
 replace hd:j1 _ _ _ _ _=some (_,full 7 mo se G0):=hd.trans (congrArg (fun T=>some (_,T)) as7)
 refine xEA (round (draw:=draw) (ne:=nd) (pl:=pd) (o:=none) (m:=19) (List.map_inj_left.1 (k17 k mo se G0) (f,2*b,g) (mem17 hf hb hg)) (fun T=>List.map_inj_left.1 (List.map_inj_left.1 (List.map_inj_left.1 (due17 T f) k hk) (2*b) hb) g hg) rfl (flat17 _) rfl) fun G1 s1 r1=>?_
 refine xEA (round (draw:=draw) (ne:=nd) (pl:=pd) (o:=some (.ref (38))) (m:=31) (List.map_inj_left.1 (List.map_inj_left.1 (k1 (2*b) g mo se G1) k hk) f hf) (fun T=>List.map_inj_left.1 (due1 T f (2*b) g) k hk) rfl rfl rfl) fun G2 s2 r2=>?_
 refine xEA (round (draw:=draw) (ne:=nd) (pl:=pd) (o:=some (.ref (50))) (m:=43) (List.map_inj_left.1 (List.map_inj_left.1 (k58 (2*b) g mo se G2) k hk) f hf) (fun T=>List.map_inj_left.1 (due58 T f (2*b) g) k hk) rfl rfl rfl) fun G3 s3 r3=>?_
 refine xEA (round (draw:=draw) (ne:=nd) (pl:=pd) (o:=some (.ref (62))) (m:=45+n6 f) (List.map_inj_left.1 (List.map_inj_left.1 (k6 k g mo se G3) f hf) (2*b) hb) (fun T=>List.map_inj_left.1 (List.map_inj_left.1 (due6 T k g) f hf) (2*b) hb) rfl (flat6 _ _ _) ((Nat.add_right_comm 63 (n6 f) 4).trans (Nat.add_assoc 22 45 (n6 f)))) fun G4 s4 r4=>?_
 refine xEA (round (draw:=draw) (ne:=nd) (pl:=pd) (o:=some (.ref (63+n6 f+1))) (m:=57+n6 f) (List.map_inj_left.1 (List.map_inj_left.1 (kpl k (2*b) g mo se G4) f hf) p hp) (fun T=>List.map_inj_left.1 (List.map_inj_left.1 (duepl T f (2*b) g) k hk) p hp) rfl rfl ((Nat.add_right_comm 75 (n6 f) 4).trans (Nat.add_assoc 22 57 (n6 f)))) fun G5 s5 r5=>?_
 have hit:∀ T:St,itemsOf T (.tup [.int 17,.int 1,.int 58,.int 6,.int p])=some ([.int 17,.int 1,.int 58,.int 6,.int p],none):=fun _=>rfl
 have hfirst:=(blk (j1 prg 9) (List.take 4 i_law_are_trackers) (r_law_are_trackers.env [AV.ref 6,AV.int draw]) (full 5 mo se G) _ (hd) _ (hseq) _ (sk _) _ (sf _) _ (sg _) _ (m6 _ _ _) _ (sp _) _ (hit _) _ (jK rfl s1 rfl (jK rfl s2 rfl (jK rfl s3 rfl (jK rfl s4 rfl (jK rfl s5 rfl rfl))))) :)
 have hlast:=(kend hf (jcC (m:=5) n0 n1) (some (.int draw)) (some (.int k)) (some (.int p)) (some (.int f)) (some (.int b)) (some (.int g)) (some (.int pd)) (some (.ref (75+n6 f+1))) mo se G5).trans (congrArg (fun B=>some (AV.bool true,B)) (r5.trans (r4.trans (r3.trans (r2.trans (r1.trans r0))))))
 refine xEA (Option.map_eq_some_iff.1 hlast) fun o ho e=>?_
 match o,ho,e with
 | .rt v T,ho,e=>exact ⟨T,(juW (r:=r_law_are_trackers) (pr (k:=28) rfl) rfl rfl (jo8 _ _ hfirst ho)).trans (congrArg (fun v=>some (v,T)) (Prod.mk.inj e).1),(Prod.mk.inj e).2⟩
end Mine.Law
end
section
open PySem
set_option maxHeartbeats 2000000
namespace Mine.Law
noncomputable def lawE (many:Option AV) (bk wd sc:Nat) (now:Int) (e6 most seed e9 e10 e11:Option AV):Ev:=[some (.ref 0),many,some (.ref bk),some (.ref wd),some (.ref sc),some (.int now),e6,most,seed,e9,e10,e11]
noncomputable def waits:List Int:=[0,1,499,500,29999,30000,90000,600000]
theorem jjC {xs:List Int} (hx:xs.length≤63) {c:Cs} {bk wd sc:Nat} {many most seed:Option AV}:∀ (ks:List Nat) (j:Nat) (r:Rl→Nat) (b:B) (w:W) (S:St) (now:Int) (e6 e9 e10 e11:Option AV),j+ks.length≤27→Inv j r c b w S→S[0]? = some (.list (xs.map .int))→r .book=bk→r .world=wd→r .scenes=sc→
  ∃ r' b' w' S' now' e6' e9' e10' e11',Inv (j+ks.length) r' c b' w' S'∧S'[0]? = some (.list (xs.map .int))∧r' .book=bk∧r' .world=wd∧r' .scenes=sc∧
   loop (fun e S=>rB (j1 prg 10) jeE e S) (.loc 6) none (ks.map fun (k:Nat)=>AV.int (k:Int)) (lawE many bk wd sc now e6 most seed e9 e10 e11) S=some (.nx (lawE many bk wd sc now' e6' most seed e9' e10' e11') S')
 | [],j,r,b,w,S,now,e6,e9,e10,e11,_,I,h0,hb,hw,hs=>⟨r,b,w,S,now,e6,e9,e10,e11,I,h0,hb,hw,hs,rfl⟩
 | k::ks,j,r,b,w,S,now,e6,e9,e10,e11,hl,I,h0,hb,hw,hs=>by
  have hj:j+1+ks.length=j+(k::ks).length:=(Nat.add_assoc ..).trans (congrArg _ (Nat.add_comm ..))
  have hj27:j < 27:=Nat.lt_of_lt_of_le (Nat.lt_add_of_pos_right (Nat.succ_pos _)) hl
  obtain ⟨v,hv⟩:=jc8 h0 hx (k:=2+(k:Int)) (Int.add_nonneg (by decide) (Int.natCast_nonneg k)) 9
  have hd:=uR (S:=S++zQ) [16,8,(2:Int)^(40:Int).toNat] (by decide) (by decide) v 9
  have e1:mM v [16,8,(2:Int)^(40:Int).toNat]=[Int.fmod v 16,Int.fmod (Int.fdiv v 16) 8,Int.fmod (Int.fdiv (Int.fdiv v 16) 8) ((2:Int)^(40:Int).toNat)]:=rfl
  rw [e1] at hd
  have hwh:=jH v (b:=16) (by decide)
  obtain ⟨w0,w1⟩:=jH (Int.fdiv v 16) (b:=8) (by decide)
  generalize Int.fmod (Int.fdiv (Int.fdiv v 16) 8) ((2:Int)^(40:Int).toNat)=rest at *
  generalize Int.fmod (Int.fdiv v 16) 8=wait at *
  generalize Int.fmod v 16=what at *
  simp only [List.map_cons,List.map_nil] at hd
  obtain ⟨dt,_,hdt⟩:=pick (l:=waits) w0 w1 rfl
  have hseq:=jaE (S:=S++zQ) (AO.list [.int 16,.int 8,.int ((2:Int)^(40:Int).toNat)]) [.int what,.int wait,.int rest]
  have asT:S++zQ++[AO.list [.int 16,.int 8,.int ((2:Int)^(40:Int).toNat)]]++[AO.list [.int what,.int wait,.int rest]]=S++(zQ++[AO.list [.int 16,.int 8,.int ((2:Int)^(40:Int).toNat)]]++[AO.list [.int what,.int wait,.int rest]]):=by rw [List.append_assoc,List.append_assoc,List.append_assoc]
  rw [asT] at hd hseq
  have I1:=I.app (zQ++[AO.list [.int 16,.int 8,.int ((2:Int)^(40:Int).toNat)]]++[AO.list [.int what,.int wait,.int rest]])
  have h01:(S++(zQ++[AO.list [.int 16,.int 8,.int ((2:Int)^(40:Int).toNat)]]++[AO.list [.int what,.int wait,.int rest]]))[0]? = some (.list (xs.map .int)):=(List.getElem?_append_left I.pos).trans h0
  generalize S++(zQ++[AO.list [.int 16,.int 8,.int ((2:Int)^(40:Int).toNat)]]++[AO.list [.int what,.int wait,.int rest]])=T at *
  obtain ⟨r1,b1,w1',S1,I2,M1,he⟩:=jvB I1 hj27 what rest (now+dt) hwh 4
  have kb:r1 .book=bk:=(M1.keep .book trivial trivial).trans hb
  have kw:r1 .world=wd:=(M1.keep .world trivial trivial).trans hw
  have ks':r1 .scenes=sc:=(M1.keep .scenes trivial trivial).trans hs
  obtain ⟨Y,hbk⟩:=jeP I2.lay I2.cpl 8
  rw [hb,hw,hs] at he
  rw [kb,kw] at hbk
  have h02:(S1++Y)[0]? = some (.list (xs.map .int)):=(List.getElem?_append_left I2.pos).trans ((M1.fr 0 I1.pos fun y hy=>I1.free y hy).trans h01)
  obtain ⟨r',b',w',S',now',e6',e9',e10',e11',I',h0',kb',kw',ks'',hloop⟩:=jjC hx (many:=many) (most:=most) (seed:=seed) ks (j+1) r1 b1 w1' (S1++Y) (now+dt) (some (.int k)) (some (.int what)) (some (.int wait)) (some (.int rest)) (hj▸hl) (I2.app Y) h02 kb kw ks'
  rw [hj] at I'
  refine ⟨r',b',w',S',now',e6',e9',e10',e11',I',h0',kb',kw',ks'',jK rfl ?_ rfl hloop⟩
  have p40:(0:Int)≤40∧(40:Int)≤200:=by decide
  exact (blk (j1 prg 10) jeE ((lawE many bk wd sc now e6 most seed e9 e10 e11).put 6 ((fun k=>AV.int ↑k) k)) S _ (uB 2 k S) _ (hv) _ (jc4 p40 _) _ (hd) _ (hseq) _ (hdt _) _ (uB now dt _) _ (he) _ (hbk) :)
end Mine.Law
end
section
open PySem
set_option maxHeartbeats 2000000
namespace Mine.Law
noncomputable def gx (g0 g1 g2 g3 g4 g5:AO) (i:Nat):AO:=[g0,g1,g2,g3,g4,g5,g0,g0,g0,.dict 0 [] 0,g0,g0,g0,.dict 1 [(.int 17,.ref 14)] 1,g0,.dict 1 [(.int 1,.ref 16),(.int 58,.ref 17)] 2,g0,g0,.dict 1 [(.int 6,.ref 19)] 1,g0,.dict 1 [(.int (-1),.ref 21)] 1].getD i g0
theorem newT2 (mo se:AV) (g0 g1 g2 g3 g4 g5:AO):j1 prg 10 "new_talks" [mo,se] [g0,g1,g2,g3,g4,g5]=some (.ref 6,kW mo se (gx g0 g1 g2 g3 g4 g5)):=by kernel_rfl
theorem newT1 (mo:AV) (g0 g1 g2 g3 g4 g5:AO):j1 prg 10 "new_talks" [mo] [g0,g1,g2,g3,g4,g5]=some (.ref 6,kW mo (.int 0) (gx g0 g1 g2 g3 g4 g5)):=by kernel_rfl
noncomputable def rk:Rl→Nat
 | .book=>6
 | .table=>7
 | .talks=>8
 | .exps=>10
 | .flows=>11
 | .world=>22
 | .wtalks=>23
 | .wrows=>24
 | .wflows=>25
 | .hung=>26
 | .scenes=>27
 | _=>0
noncomputable def unrk (k:Nat):Rl:=[Rl.book,.book,.book,.book,.book,.book,.book,.table,.talks,.book,.exps,.flows,.book,.book,.book,.book,.book,.book,.book,.book,.book,.book,.world,.wtalks,.wrows,.wflows,.hung,.scenes].getD k .book
noncomputable def r0 (n:Nat) (y:Rl):Nat:=if rk y < 22 then rk y else n+(rk y - 22)
theorem r0_rk {n:Nat} (hn:22≤n) {x y:Rl} (h:r0 n x=r0 n y):rk x=rk y:=by
 unfold r0 at h
 split at h<;>split at h<;>lia
noncomputable def w0:W:=⟨[],[],[],[]⟩
noncomputable def b0:B:=⟨[],[],[],[],[],[],[]⟩
noncomputable def wX (n:Nat):List AO:=[.dict 2 (yI (n+1) (n+2) (n+3) (n+4)) 4,.dict 0 [] 0,.list [],.dict 0 [] 0,.list [],.list []]
theorem unrk0 {y:Rl} (h:al b0 w0 y):unrk (rk y)=y:=by
 cases y<;>first | rfl | exact absurd h (Nat.not_lt_zero _)
theorem inv0 {mo se:AV} {G:Nat→AO} {T:St} (h:T.take 22=kW mo se G):Inv 0 (r0 T.length) ⟨mo,se,.ref 12⟩ b0 w0 (T++wX T.length):=by
 have hle:22≤T.length:=by
  have:=congrArg List.length h
  rw [List.length_take] at this
  exact Nat.le_trans (Nat.le_of_eq this.symm) (Nat.min_le_right _ _)
 have old:∀ i,i < 22→(T++wX T.length)[i]? = (kW mo se G)[i]?:=fun i hi=>by
  rw [List.getElem?_append_left (Nat.lt_of_lt_of_le hi hle),← h,List.getElem?_take,if_pos hi]
 have new:∀ i,(T++wX T.length)[T.length+i]? = (wX T.length)[i]?:=fun i=>by
  rw [List.getElem?_append_right (Nat.le_add_right _ _),Nat.add_sub_cancel_left]
 have e0:isD 4 [] (.dict 0 [] 0):=⟨0,0,rfl,.inr ⟨rfl,rfl⟩⟩
 have e1:isD 1 [] (.dict 0 [] 0):=⟨0,0,rfl,.inr ⟨rfl,rfl⟩⟩
 refine ⟨⟨fun y hy=>?_,fun x y hx hy q=>?_,?_,?_⟩,?_,fun i x hx=>(nomatch hx),⟨Nat.le_refl _,Nat.le_refl _,Nat.le_refl _⟩,fun y hy=>?_,?_⟩
 ·cases y<;>first
   | exact absurd hy (Nat.not_lt_zero _)
   | exact ⟨_,(old 6 (by decide)).trans rfl,rfl⟩
   | exact ⟨_,(old 7 (by decide)).trans rfl,e0⟩
   | exact ⟨_,(old 8 (by decide)).trans rfl,e1⟩
   | exact ⟨_,(old 10 (by decide)).trans rfl,rfl⟩
   | exact ⟨_,(old 11 (by decide)).trans rfl,e0⟩
   | exact ⟨_,(new 0).trans rfl,2,4,rfl,.inl rfl⟩
   | exact ⟨_,(new 1).trans rfl,e1⟩
   | exact ⟨_,(new 2).trans rfl,rfl⟩
   | exact ⟨_,(new 3).trans rfl,e0⟩
   | exact ⟨_,(new 4).trans rfl,rfl⟩
   | exact ⟨_,(new 5).trans rfl,rfl⟩
 ·rw [← unrk0 hx,← unrk0 hy,r0_rk hle q]
 ·exact { bl:=fun i h=>(nomatch h),blN:=.nil,el:=fun i h=>(nomatch h),few:=Nat.zero_le _,tab:=fun e h=>(nomatch h),tabN:=.nil,fl:=fun e h=>(nomatch h),flN:=.nil,exs:=fun e h=>(nomatch h),small:=⟨Nat.zero_le _,Nat.zero_le _,Nat.zero_le _⟩}
 ·exact { wl:=fun i h=>(nomatch h),wlN:=.nil,few:=Nat.zero_le _,fl:=fun e h=>(nomatch h),flN:=.nil,wh:=fun e h=>(nomatch h),small:=⟨Nat.zero_le _,Nat.zero_le _⟩}
 ·exact { rows:=rfl,live:=rfl,fl:=rfl,hung:=rfl,tab:=rfl,tabN:=.nil,wlN:=.nil,ok:=fun i x h=>(nomatch h),on:=fun i x h=>(nomatch h),scn:=rfl }
 ·intro q
  have h0:∀ k,k < 22→rk y=k→k≠0→False:=fun k hk e h=>h (by rw [← e,← q,r0,if_pos (e▸hk)])
  cases y<;>first
   | exact absurd hy (Nat.not_lt_zero _)
   | exact h0 _ (by decide) rfl (by decide)
   | exact Nat.not_lt_zero 0 (Nat.lt_of_lt_of_le (Nat.lt_of_lt_of_le (by decide) (Nat.le_trans hle (Nat.le_add_right _ _))) (Nat.le_of_eq q))
 ·rw [List.length_append];exact Nat.lt_of_lt_of_le (Nat.succ_pos _) (Nat.le_add_left 1 _)
end Mine.Law
end
section
open PySem
set_option maxHeartbeats 4000000
namespace Mine.Law
theorem jxE {xs:List Int} (hx:xs.length≤63):∃ (n:Nat) (mo se:AV) (G:Nat→AO) (T:St) (e7 e8:Option AV),n≤27∧T.take 22=kW mo se G∧T[0]? = some (.list (xs.map .int))∧
  rB (j1 prg 10) (i_law.take 8) (r_law.env [.ref 0]) [.list (xs.map .int)]=some (.nx (lawE (some (.int n)) 6 T.length (T.length+5) 10000 none e7 e8 none none none) (T++wX T.length)):=by
 have hself:([AO.list (xs.map .int)]:St)[0]? = some (.list (xs.map .int)):=rfl
 have hlen:=xT hself (z8 (Nat.le_trans hx (by decide)))
 rw [List.length_map] at hlen
 have n6:¬ ((6:Int)=0∨2^64≤(6:Int).natAbs):=by decide
 have hq0:0≤Int.fdiv (xs.length:Int) 6:=Int.fdiv_nonneg (Int.natCast_nonneg _) (by decide)
 obtain ⟨m,hm27,hmin⟩:∃ m:Nat,m≤27∧(19:Int)+(if Int.fdiv (xs.length:Int) 6 < 8 then Int.fdiv (xs.length:Int) 6 else 8)=m:=by
  refine ⟨((19:Int)+(if Int.fdiv (xs.length:Int) 6 < 8 then Int.fdiv (xs.length:Int) 6 else 8)).toNat,?_,?_⟩<;>split<;>lia
 have hmn:∀ S:St,jN "min" [.int 8,.int (Int.fdiv (xs.length:Int) 6)] S=some (.int (if Int.fdiv (xs.length:Int) 6 < 8 then Int.fdiv (xs.length:Int) 6 else 8),S):=fun _=>rfl
 have hadd:∀ S:St,zK .Add (.int 19) (.int (if Int.fdiv (xs.length:Int) 6 < 8 then Int.fdiv (xs.length:Int) 6 else 8)) S=some (.int m,S):=fun S=>by rw [uB,hmin]
 obtain ⟨v,hv⟩:=jc8 hself hx (k:=0) (Int.le_refl _) 9
 have hd:=uR (S:=[AO.list (xs.map .int)]++zQ) [8,65536] (by decide) (by decide) v 9
 have e1:mM v [8,65536]=[Int.fmod v 8,Int.fmod (Int.fdiv v 8) 65536]:=rfl
 rw [e1] at hd
 have hsd:=(jH (Int.fdiv v 8) (b:=65536) (by decide)).1
 generalize Int.fmod (Int.fdiv v 8) 65536=seed at *
 generalize Int.fmod v 8=most at *
 simp only [List.map_cons,List.map_nil] at hd
 have hseq:=jaE (S:=[AO.list (xs.map .int)]++zQ) (AO.list [.int 8,.int 65536]) [.int most,.int seed]
 obtain ⟨g1,g2,g3,g4,g5,hg⟩:∃ g1 g2 g3 g4 g5,[AO.list (xs.map .int)]++zQ++[AO.list [.int 8,.int 65536]]++[AO.list [.int most,.int seed]]=[AO.list (xs.map .int),g1,g2,g3,g4,g5]:=⟨_,_,_,_,_,rfl⟩
 rw [hg] at hd hseq
 have hnew2:=newT2 (.int (1+most)) (.int seed) (.list (xs.map .int)) g1 g2 g3 g4 g5
 have hnew1:=newT1 (.int (1+most)) (.list (xs.map .int)) g1 g2 g3 g4 g5
 have hG0:gx (.list (xs.map .int)) g1 g2 g3 g4 g5 0 = .list (xs.map .int):=rfl
 have h60:∀ Y:List AO,(kW (.int (1+most)) (.int seed) (gx (.list (xs.map .int)) g1 g2 g3 g4 g5)++Y)[0]? = some (.list (xs.map .int)):=fun _=>rfl
 have hBk:∀ Y:List AO,(kW (.int (1+most)) (.int seed) (gx (.list (xs.map .int)) g1 g2 g3 g4 g5)++Y)[6]? = some (vK ⟨.int (1+most),.int seed,.ref 12⟩ 7 8 10 11):=fun _=>rfl
 have hB0:=hBk []
 rw [List.append_nil] at hB0
 have htk:∀ Y:List AO,(kW (.int (1+most)) (.int seed) (gx (.list (xs.map .int)) g1 g2 g3 g4 g5)++Y).take 22=kW (.int (1+most)) (.int seed) (gx (.list (xs.map .int)) g1 g2 g3 g4 g5):=fun Y=>List.take_left' rfl
 have hl22:(kW (.int (1+most)) (.int seed) (gx (.list (xs.map .int)) g1 g2 g3 g4 g5)).length=22:=rfl
 generalize gx (.list (xs.map .int)) g1 g2 g3 g4 g5=G at *
 generalize hSb:kW (.int (1+most)) (.int seed) G=Sb at *
 let l:List AV:=[.int (1+most),.int seed,.int 128,.int 0,.bool true]
 have a1:kG Sb (.ref 6) "most" = some (.int (1+most)):=(jS hB0 _).trans rfl
 have a2:kG Sb (.ref 6) "seed" = some (.int seed):=(jS hB0 _).trans rfl
 have a3:kG Sb (.ref 6) "tries" = some (.int 128):=(jS hB0 _).trans rfl
 have a4:kG Sb (.ref 6) "last" = some (.int 0):=(jS hB0 _).trans rfl
 have a5:kG Sb (.ref 6) "is_loose" = some (.bool true):=(jS hB0 _).trans rfl
 have hl1:(Sb++[AO.list l]++[AO.list l])[Sb.length]? = some (.list l):=by simp
 have hl2:(Sb++[AO.list l]++[AO.list l])[(Sb++[AO.list l]).length]? = some (.list l):=by simp
 have hc:=cmpN (gM hl1 hl2 fun x hx=>jlP (List.all_eq_true.mp (show l.all xH=true from rfl) x hx))
 have asL:∀ Y:List AO,Sb++[AO.list l]++[AO.list l]++Y=Sb++([AO.list l]++[AO.list l]++Y):=fun Y=>by rw [List.append_assoc,List.append_assoc,List.append_assoc]
 obtain ⟨v1,hv1⟩:=jc8 (S:=Sb++[AO.list l]++[AO.list l]) (by rw [List.append_assoc];exact h60 _) hx (k:=1) (by decide) 9
 obtain ⟨G2,hG2⟩:=jpR (mo:=.int (1+most)) (se:=.int seed) (G:=G) (T:=Sb++[AO.list l]++[AO.list l]++zQ) (n:=5) (by rw [asL,htk,hSb]) (by rw [asL,List.length_append,hl22];rfl)
 obtain ⟨T,ht,hT⟩:=jkZ (.int (1+most)) (.int seed) G2 v1
 have hT0:T.take 22=Sb:=by rw [hT,← ja8 5,← hG2,asL,htk]
 rw [← hG2] at ht
 have hT00:T[0]? = some (.list (xs.map .int)):=by
  have:=h60 []
  rw [List.append_nil,← hT0,List.getElem?_take,if_pos (by decide)] at this
  exact this
 refine ⟨m,.int (1+most),.int seed,G,T,some (.int most),some (.int seed),hm27,by rw [hT0,hSb],hT00,?_⟩
 have i1:=xJ (S:=T++[AO.dict 0 [] 0]) (.dict 0 [] 0) [] (.dict 0 [] 0) rfl
 have i2:=xJ (S:=T++[AO.dict 0 [] 0]++[AO.dict 0 [] 0]++[AO.list []]) (.dict 0 [] 0) [] (.dict 0 [] 0) rfl
 have hput:kT (pairUp [.str "talks",.ref (T++[AO.dict 0 [] 0]).length,.str "rows",.ref (T++[AO.dict 0 [] 0]++[AO.dict 0 [] 0]).length,.str "flows",.ref (T++[AO.dict 0 [] 0]++[AO.dict 0 [] 0]++[AO.list []]).length,.str "hung",.ref (T++[AO.dict 0 [] 0]++[AO.dict 0 [] 0]++[AO.list []]++[AO.dict 0 [] 0]).length]) 0 [] 0=some (.dict 2 (yI (T.length+1) (T.length+2) (T.length+3) (T.length+4)) 4):=by
  simp only [List.length_append,List.length_cons,List.length_nil];rfl
 have i3:=gQ (S:=T) (.dict 0 [] 0) [.dict 0 [] 0,.list [],.dict 0 [] 0,.list []] _ _ hput
 have asW:T++[AO.dict 0 [] 0]++[AO.dict 0 [] 0]++[AO.list []]++[AO.dict 0 [] 0]++[AO.list []]=T++[AO.dict 0 [] 0]++[AO.dict 0 [] 0,.list [],.dict 0 [] 0,.list []]:=by simp only [List.append_assoc,List.cons_append,List.nil_append]
 have asX:T++wX T.length=T++[AO.dict 2 (yI (T.length+1) (T.length+2) (T.length+3) (T.length+4)) 4]++[AO.dict 0 [] 0,.list [],.dict 0 [] 0,.list []]++[AO.list []]:=by rw [List.append_assoc,List.append_assoc];rfl
 have lenX:T.length+5=(T++[AO.dict 2 (yI (T.length+1) (T.length+2) (T.length+3) (T.length+4)) 4]++[AO.dict 0 [] 0,.list [],.dict 0 [] 0,.list []]).length:=by simp only [List.length_append,List.length_cons,List.length_nil]
 rw [← asW] at i3
 rw [asX,lenX]
 by_cases hs:seed > 0
 ·exact (blk (j1 prg 10) (List.take 8 i_law) (r_law.env [AV.ref 0]) [AO.list (List.map AV.int xs)] _ (hlen) _ (vM n6 _ _) _ (hmn _) _ (hadd _) _ (hv) _ (hd) _ (hseq) _ (gt_t hs _) _ (uB 1 most _) _ (hnew2) _ (a1) _ (a2) _ (a3) _ (a4) _ (a5) _ (uB 1 most _) _ (hc) _ (hv1) _ (ht) _ (i1) _ (i2) _ (i3) :)
 ·have hs0:seed=0:=Int.le_antisymm (Int.not_lt.1 hs) hsd
  rw [← hs0] at hnew1
  rw [hSb] at hnew1
  exact (blk (j1 prg 10) (List.take 8 i_law) (r_law.env [AV.ref 0]) [AO.list (List.map AV.int xs)] _ (hlen) _ (vM n6 _ _) _ (hmn _) _ (hadd _) _ (hv) _ (hd) _ (hseq) _ (gt_f hs _) _ (uB 1 most _) _ (hnew1) _ (a1) _ (a2) _ (a3) _ (a4) _ (a5) _ (uB 1 most _) _ (hc) _ (hv1) _ (ht) _ (i1) _ (i2) _ (i3) :)
end Mine.Law
end
section
open PySem
set_option maxHeartbeats 4000000
namespace Mine.Law
noncomputable def gapsE:List Int:=[0,500,30000,600000]
theorem law_ok {xs:List Int} (hx:xs.length≤63):∃ S',S'[0]? = some (.list (xs.map .int))∧j1 prg 11 "law" [.ref 0] [.list (xs.map .int)]=some (.bool true,S'):=by
 obtain ⟨m,mo,se,G,T,e7,e8,hm,hT,hT0,hpre⟩:=jxE hx
 have I:=inv0 hT
 have hk:r0 T.length .world=T.length:=rfl
 obtain ⟨r,b,w,S,now,e6,e9,e10,e11,I1,h0,kb,kw,ks,hloop⟩:=jjC hx (many:=some (.int m)) (most:=e7) (seed:=e8) (List.range m) 0 (r0 T.length) b0 w0 (T++wX T.length) 10000 none none none none (by rw [List.length_range,Nat.zero_add];exact hm) I ((List.getElem?_append_left (j5 hT0)).trans hT0) rfl rfl rfl
 have hit:jR (m:Int)=(List.range m).map fun (k:Nat)=>AV.int (k:Int):=by simp only [jR,Int.toNat_natCast]
 rw [← hit] at hloop
 have hr:decide ((0:Int)≤(m:Int)∧(m:Int)≤1000)=true:=decide_eq_true (by lia)
 obtain ⟨v,hv⟩:=jc8 h0 hx (k:=2+(m:Int)) (Int.add_nonneg (by decide) (Int.natCast_nonneg m)) 9
 have n4:¬ (4:Int)=0:=by decide
 obtain ⟨v0,v1⟩:=jH v (b:=4) (by decide)
 obtain ⟨dt,_,hdt⟩:=pick (l:=gapsE) v0 v1 rfl
 have I2:=I1.app zQ
 have h01:(S++zQ)[0]? = some (.list (xs.map .int)):=(List.getElem?_append_left I1.pos).trans h0
 generalize S++zQ=S1 at *
 obtain ⟨r1,S2,L2,m2,hs1⟩:=jd6 I2.lay (now+dt) 7
 obtain ⟨r2,S3,L3,m3,hs2⟩:=jaM L2 (now+dt) 8
 have p2:0 < S2.length:=Nat.lt_of_lt_of_le I2.pos m2.len
 have h03:S3[0]? = some (.list (xs.map .int)):=(m3.fr 0 p2 fun y hy=>(m2.new y hy).elim (fun g=>g.2▸I2.free y g.1) fun g=>Nat.ne_of_gt (Nat.lt_of_lt_of_le I2.pos g)).trans ((m2.fr 0 I2.pos fun y hy=>I2.free y hy).trans h01)
 have p3:0 < S3.length:=Nat.lt_of_lt_of_le p2 m3.len
 obtain ⟨q,C3⟩:=I2.cpl.sweep (now+dt)
 rw [m2.keep .world trivial trivial,kw,← q] at hs2
 rw [kb] at hs1
 have kb2:r2 .book=6:=(m3.keep .book trivial trivial).trans ((m2.keep .book trivial trivial).trans kb)
 have kw2:r2 .world=T.length:=(m3.keep .world trivial trivial).trans ((m2.keep .world trivial trivial).trans kw)
 have ks2:r2 .scenes=T.length+5:=(m3.keep .scenes trivial trivial).trans ((m2.keep .scenes trivial trivial).trans ks)
 obtain ⟨Y,hb⟩:=jeP L3 C3 8
 rw [kw2,kb2] at hb
 have L4:=L3.app Y
 have hlast:kG (S3++Y) (.ref 6) "last" = some (.int 0):=by
  have:=L4.book
  rw [kb2] at this
  exact (jS this _).trans rfl
 obtain ⟨Z,ht⟩:=jiF L4 C3 9
 rw [kw2,ks2] at ht
 have hrest:rB (j1 prg 10) (i_law.drop 8) (lawE (some (.int m)) 6 T.length (T.length+5) 10000 none e7 e8 none none none) (T++wX T.length)=some (.rt (.bool true) (S3++Y++Z)):=by
  exact (blk (j1 prg 10) (List.drop 8 i_law) (lawE (some (AV.int ↑m)) 6 (List.length T) (List.length T+5) 10000 none e7 e8 none none none) (T++wX (List.length T)) _ (kA hr) _ (hloop) _ (uB 2 m _) _ (hv) _ (qQ n4 _ _) _ (hdt _) _ (uB now dt _) _ (hs1) _ (hs2) _ (ne_f rfl _) _ (hb) _ (hlast) _ (ne_f rfl _) _ (ht) :)
 exact ⟨_,(List.getElem?_append_left (by rw [List.length_append];exact Nat.lt_add_right _ p3)).trans ((List.getElem?_append_left p3).trans h03),juW (r:=r_law) (pr (k:=42) rfl) rfl rfl (jo8 _ _ hpre hrest)⟩
end Mine.Law
end
section
open PySem PySem.W PyProof.Rows PySem.Calls
namespace Mine
section
variable {β:Type}
theorem wQ {n:Str}:∀ {l m:List (Str×β)},(l++m).lookup n=(l.lookup n).or (m.lookup n)
 | [],m=>rfl
 | (y,a)::l,m=>by
  rw [List.cons_append,List.lookup_cons,List.lookup_cons,wQ]
  cases n==y<;>rfl
noncomputable def jhD (s:List (Str×β)) (p:Str×β):List (Str×β):=if (s.lookup p.1).isNone=true then s++[(p.1,p.2)] else s
theorem mQ {n:Str}:∀ {l s:List (Str×β)},(l.foldl jhD s).lookup n=(s.lookup n).or (l.lookup n)
 | [],s=>(Option.or_none).symm
 | (y,a)::l,s=>by
  rw [List.foldl_cons,mQ,List.lookup_cons]
  unfold jhD
  cases hy:s.lookup y with
  | none=>
   rw [if_pos (show (none:Option β).isNone=true from rfl),wQ,List.lookup_cons,List.lookup_nil,Option.or_assoc]
   cases n==y<;>rfl
  | some b=>
   rw [if_neg (fun q=>nomatch q)]
   cases e:n==y with
   | false=>rfl
   | true=>rw [eq_of_beq e,hy];rfl
theorem jaH {z:Str} {b:β}:∀ {l:List (Str×β)},(nd:(l.map (·.1)).Nodup)→(z,b)∈l→l.lookup z=some b
 | (y,a)::r,nd,hm=>by
  rw [List.lookup_cons]
  rcases List.mem_cons.mp hm with e | hm'
  ·refine xA (Prod.mk.inj e) fun q0q q1q=>?_;obtain rfl:=q0q;obtain rfl:=q1q;rw [beq_self_eq_true]
  ·rw [beq_eq_false_iff_ne.2 fun (e:z=y)=>(List.nodup_cons.1 nd).1 (List.mem_map.2 ⟨_,hm',e⟩)]
   exact jaH (List.nodup_cons.1 nd).2 hm'
theorem lookup_none {n:Str}:∀ {l:List (Str×β)},n ∉ l.map (·.1)→l.lookup n=none
 | [],_=>rfl
 | (y,a)::l,h=>by
  rw [List.lookup_cons,beq_eq_false_iff_ne.2 fun (e:n=y)=>h (by rw [e];exact .head _)]
  exact lookup_none fun q=>h (.tail _ q)
theorem jeG {γ:Type} {f g:Str→Option γ}:∀ {l:List Str},(∀ x∈l,f x=g x)→l.filterMap f=l.filterMap g
 | [],_=>rfl
 | x::l,h=>by rw [List.filterMap_cons,List.filterMap_cons,h x (.head _),jeG fun y hy=>h y (.tail _ hy)]
theorem jjF:∀ {ps:List Str} {vs:List β},ps.Nodup→ps.length=vs.length→ps.filterMap (fun n=>((ps.zip vs).lookup n).map (fun v=>(n,v)))=ps.zip vs
 | [],[],_,_=>rfl
 | p::ps,v::vs,nd,hl=>by
  have h:=List.nodup_cons.1 nd
  rw [List.filterMap_cons,List.zip_cons_cons,List.lookup_cons,beq_self_eq_true]
  refine congrArg ((p,v) :: ·) (Eq.trans ?_ (jjF h.2 (Nat.succ.inj hl)))
  exact jeG fun n hn=>by rw [List.lookup_cons,beq_eq_false_iff_ne.2 fun (e:n=p)=>h.1 (e▸hn)]
theorem je0 {σ:Type} (f:Str×β→σ→Sem (ForInStep σ)) (g:σ→Str×β→σ) (hf:∀ p s,f p s=pure (.yield (g s p))):∀ (l:List (Str×β)) (s:σ),forIn l s f=pure (l.foldl g s)
 | [],s=>rfl
 | p::l,s=>by
  rw [List.forIn_cons,hf]
  exact je0 f g hf l _
theorem jr7 {ps:List Str} {V D:List β} (nd:ps.Nodup) (h1:V.length≤ps.length) (h2:ps.length≤V.length+D.length) (h3:D.length≤ps.length) {n:Str} :
  ((ps.zip V).lookup n).or (((ps.drop (ps.length - D.length)).zip D).lookup n)=(ps.zip (V++D.drop (V.length+D.length - ps.length))).lookup n:=by
 obtain ⟨k,hk⟩:∃ k,V.length=ps.length - D.length+k:=⟨V.length - (ps.length - D.length),by lia⟩
 have hm:V.length+D.length - ps.length=k:=by lia
 have l1:(ps.take V.length).length=V.length:=by rw [List.length_take];lia
 have sp:=List.take_append_drop V.length ps
 have e1:ps.zip V=(ps.take V.length).zip V:=by
  have h:=List.zip_append (l₁:=ps.take V.length) (r₁:=ps.drop V.length) (l₂:=V) (r₂:=[]) l1
  rw [sp,List.append_nil,List.zip_nil_right,List.append_nil] at h;exact h
 have e2:ps.zip (V++D.drop k)=(ps.take V.length).zip V++(ps.drop V.length).zip (D.drop k):=by
  have h:=List.zip_append (l₁:=ps.take V.length) (r₁:=ps.drop V.length) (l₂:=V) (r₂:=D.drop k) l1
  replace h:=sp▸h;exact h
 have l2:((ps.drop (ps.length - D.length)).take k).length=(D.take k).length:=by rw [List.length_take,List.length_take,List.length_drop];lia
 have e3:(ps.drop (ps.length - D.length)).zip D=((ps.drop (ps.length - D.length)).take k).zip (D.take k)++(ps.drop V.length).zip (D.drop k):=by
  have h:=List.zip_append (l₁:=(ps.drop (ps.length - D.length)).take k) (r₁:=(ps.drop (ps.length - D.length)).drop k) (l₂:=D.take k) (r₂:=D.drop k) l2
  rw [List.take_append_drop,List.take_append_drop,List.drop_drop,← hk] at h;exact h
 rw [hm,e1,e2,e3,wQ,wQ,← Option.or_assoc]
 cases h:((ps.take V.length).zip V).lookup n with
 | some v=>rfl
 | none=>
  refine congrArg (fun o=>Option.or o _) ?_
  refine (Option.none_or).trans (lookup_none fun q=>?_)
  rw [List.map_fst_zip (Nat.le_of_eq l2)] at q
  have hin:n∈ps.take V.length:=by
   rw [hk,List.take_add]
   exact List.mem_append_right _ q
  have hf:((ps.take V.length).zip V).map (·.1)=ps.take V.length:=List.map_fst_zip (Nat.le_of_eq l1)
  refine xEA (List.mem_map.1 (hf▸hin)) fun p hp e=>?_
  have hnd:(((ps.take V.length).zip V).map (·.1)).Nodup:=by rw [hf];exact nd.sublist (List.take_sublist ..)
  rw [jaH hnd (show (n,p.2)∈_ from e▸hp)] at h
  exact j0 h.symm
end
theorem skip {γ:Type} {b:Bool} {x y r:γ} (h:b=false) (e:y=r):(if b=true then x else y)=r:=by rw [h];exact e
theorem jxM {γ δ:Type} {m:Sem γ} {a:γ} {k:γ→Sem δ} {r:Sem δ} (h:m=pure a) (e:k a=r):m >>= k=r:=by rw [h];exact e
structure jnI (p:Arguments) (ps:List Str):Prop where
 h1:p.posonlyargs=[]
 h2:p.kwonlyargs=[]
 h3:p.vararg=none
 h4:p.kwarg=none
 h5:p.args.map (·.arg)=ps
theorem jsD {fd:FuncData} {ps:List Str} (P:jnI fd.params ps) (nd:ps.Nodup) {V D:List Value} (h1:V.length≤ps.length) (h2:ps.length≤V.length+D.length) (h3:D.length≤ps.length) :
  ∃ K:Option (Array Value)→Sem (List (Str×Value)),bindArgs fd ⟨V,[]⟩=seqItems? fd.defaults >>= K∧∀ o,(o.getD #[]).toList=D→K o=pure (ps.zip (V++D.drop (V.length+D.length - ps.length))):=by
 refine ⟨_,by unfold bindArgs;simp only [P.h1,P.h2,P.h3,P.h4,P.h5];rfl,fun o ho=>?_⟩
 rw [ho]
 have hD:D.drop (D.length - ps.length)=D:=by rw [Nat.sub_eq_zero_of_le h3];rfl
 have hhas:∀ n∈ps.take (ps.length - D.length),((ps.zip V).lookup n).isNone=false:=fun n hn=>by
  have hv:(ps.zip V).map (·.1)=ps.take V.length:=by
   have h:=List.zip_append (l₁:=ps.take V.length) (r₁:=ps.drop V.length) (l₂:=V) (r₂:=[]) (by rw [List.length_take];lia)
   rw [List.take_append_drop,List.append_nil,List.zip_nil_right,List.append_nil] at h
   rw [h,List.map_fst_zip (by rw [List.length_take];lia)]
  have hin:n∈(ps.zip V).map (·.1):=by
   rw [hv]
   exact List.mem_of_mem_take (i:=ps.length - D.length) (by rw [List.take_take,Nat.min_eq_left (by lia)];exact hn)
  refine xEA (List.mem_map.1 hin) fun p hp e=>?_
  have hnd:((ps.zip V).map (·.1)).Nodup:=by rw [hv];exact nd.sublist (List.take_sublist ..)
  rw [jaH hnd (show (n,p.2)∈_ from e▸hp)];rfl
 have hmiss:(ps.take (ps.length - D.length)).filter (fun n=>((ps.zip V).lookup n).isNone)=[]:=List.filter_eq_nil_iff.2 fun n hn=>by rw [hhas n hn];exact Bool.false_ne_true
 refine skip (show (decide (V.length > ps.length)&&true)=false by rw [decide_eq_false (Nat.not_lt.2 h1)];rfl) ?_
 refine skip (show (!((ps.take (ps.length - (D.drop (D.length - ps.length)).length)).filter fun n=>((ps.zip V).lookup n).isNone).isEmpty)=false by rw [hD,hmiss];rfl) ?_
 have hz:(ps.drop (ps.length - (D.drop (D.length - ps.length)).length)).zip (D.drop (D.length - ps.length))=(ps.drop (ps.length - D.length)).zip D:=by rw [hD]
 refine jxM (a:=((ps.drop (ps.length - D.length)).zip D).foldl jhD (ps.zip V)) ((je0 _ jhD (fun p s=>?_) _ _).trans (congrArg (fun l=>pure (List.foldl jhD (ps.zip V) l)) hz)) ?_
 ·unfold jhD
  cases (s.lookup p.1).isNone<;>rfl
 ·refine congrArg (Sem.pure (α:=List (Str×Value))) ?_
  show List.filterMap _ (ps++[])=_
  rw [List.append_nil,← jjF nd (vs:=V++D.drop (V.length+D.length - ps.length)) (by rw [List.length_append,List.length_drop];lia)]
  exact jeG fun n _=>by rw [mQ,jr7 nd h1 h2 h3]
end Mine
end
section
open PySem PySem.W PyProof.Rows PySem.Calls
namespace Mine
open Law (IS Row zN sq prg vU yO qK y4)
noncomputable def isCQ (x:Str):Bool:=(zN x prg).isSome||vU x ["answer_side","target_of","tuple_at"]
noncomputable def globs:List (Str×Int):=[("WORD",4294967295),("MOST_SCALE",14),("DYING",512),("SEEN_REPLY",2),("ASSURED",4),("INVALID",1),("RELATED",4),("UNTRACKED",64),("UDP_SPAN",30000),("UDP_STREAM_SPAN",120000),("UDP_STREAM_FROM",2000),("ICMP_SPAN",30000),("PLAIN_SPAN",600000)]
noncomputable def jpS (x:Str):List (Str×Int)→Option AV
 | []=>none
 | p::r=>match sq p.1 x with
  | true=>some (.int p.2)
  | false=>jpS x r
noncomputable def jpJ (x:Str):Option AV:=jpS x globs
theorem jg0 {x:Str} {v:AV}:∀ {l:List (Str×Int)},jpS x l=some v→∃ i,(x,i)∈l∧v = .int i
 | p::r,h=>by
  revert h
  show (match sq p.1 x with | true=>some (AV.int p.2) | false=>jpS x r)=_→_
  cases e:sq p.1 x with
  | true=>exact fun h=>⟨p.2,by rw [← Law.sq_of e];exact .head _,(Option.some.inj h).symm⟩
  | false=>exact fun h=>(jg0 h).elim fun i g=>⟨i,.tail _ g.1,g.2⟩
theorem gP {x:Str} {r:Row}:∀ {l:List Row},zN x l=some r→r∈l∧r.x=x
 | p::l,h=>by
  revert h
  show (match sq p.x x with | true=>some p | false=>zN x l)=_→_
  cases e:sq p.x x with
  | true=>exact fun h=>Option.some.inj h▸⟨.head _,Law.sq_of e⟩
  | false=>exact fun h=>⟨.tail _ (gP h).1,(gP h).2⟩
noncomputable def refOf:Option Value→Option Addr
 | some (.ref a)=>some a
 | _=>none
theorem gX {v:Option Value} {a:Addr} (h:refOf v=some a):v=some (.ref a):=by
 induction v using Option.casesOn with
 | none=>exact j0 h
 | some v=>induction v using PySem.Value.casesOn<;>first | exact congrArg (fun a=>some (Value.ref a)) (Option.some.inj h) | exact j0 h
noncomputable def fdOf:Data→Option FuncData
 | .func fd=>some fd
 | _=>none
theorem jk0 {d:Data} {fd:FuncData} (h:fdOf d=some fd):d = .func fd:=by
 induction d using PySem.Data.casesOn<;>first | exact congrArg Data.func (Option.some.inj h) | exact j0 h
noncomputable def jp5:FuncBody→Option (List Stmt)
 | .stmts b=>some b
 | _=>none
theorem jlT {d:FuncBody} {b:List Stmt} (h:jp5 d=some b):d = .stmts b:=by
 induction d using PySem.FuncBody.casesOn<;>first | exact congrArg FuncBody.stmts (Option.some.inj h) | exact j0 h
noncomputable def sqs:List Str→List Str→Bool
 | [],[]=>true
 | a::l,b::m=>sq a b&&sqs l m
 | _,_=>false
theorem jtL:∀ {l m:List Str},sqs l m=true→l=m
 | [],[],_=>rfl
 | a::l,b::m,h=>by rw [Law.sq_of (j4 h).1,jtL (j4 h).2]
noncomputable def jsT (p:Arguments) (ps:List Str):Bool:=p.posonlyargs.isEmpty&&(p.kwonlyargs.isEmpty&&(p.vararg.isNone&&(p.kwarg.isNone&&sqs (p.args.map (·.arg)) ps)))
theorem jrJ {p:Arguments} {ps:List Str} (h:jsT p ps=true):jnI p ps:=by
 have h1:=j4 h
 have h2:=j4 h1.2
 have h3:=j4 h2.2
 have h4:=j4 h3.2
 exact ⟨List.isEmpty_iff.1 h1.1,List.isEmpty_iff.1 h2.1,Option.isNone_iff_eq_none.1 h3.1,Option.isNone_iff_eq_none.1 h4.1,jtL h4.2⟩
noncomputable def dOk:List AV→List Value→Bool
 | [],[]=>true
 | a::r,v::vs=>(match a with
  | .int i=>(match v with
   | .int j _=>decide (i=j)
   | _=>false)
  | .str s=>(match v with
   | .str t _=>sq s t
   | _=>false)
  | _=>false)&&dOk r vs
 | _,_=>false
theorem jpB:∀ {ds:List AV} {vs:List Value},dOk ds vs=true→ds.length=vs.length
 | [],[],_=>rfl
 | a::r,v::vs,q=>congrArg Nat.succ (jpB (j4 q).2)
theorem jpH {c:Cx} {σ:Sig} {h:Heap}:∀ {ds:List AV} {vs:List Value},dOk ds vs=true→VRels c σ h ds vs
 | [],[],_=>.nil
 | a::r,v::vs,q=>by
  refine .cons ?_ (jpH (j4 q).2)
  have q:=(j4 q).1
  induction a using AV.casesOn<;>first | exact Bool.noConfusion q | skip
  ·induction v using PySem.Value.casesOn<;>first | exact Bool.noConfusion q | skip
   rw [of_decide_eq_true q];exact .int _ _
  ·induction v using PySem.Value.casesOn<;>first | exact Bool.noConfusion q | skip
   rw [Law.sq_of q];exact .str _ _
noncomputable def dAt (g:Addr→Option Obj) (d:Value) (ds:List AV):Bool:=match d with
 | .none=>ds.isEmpty
 | .ref T=>match g T with
  | some o=>match o.data with
   | .seq items _=>dOk ds items.toList
   | _=>false
  | none=>false
 | _=>false
noncomputable def codeB (g:Addr→Option Obj) (cd:Value) (q:Str):Bool:=match cd with
 | .ref c=>match g c with
  | some o=>match o.data with
   | .fields vs=>match (vs[1]?:Option Value) with
    | some (.str s _)=>sq s q
    | _=>false
   | _=>false
  | none=>false
 | _=>false
theorem js5 {h:Heap} {cd:Value} {q:Str} (e:codeB h.get? cd q=true):h.CodeRec cd q:=by
 unfold codeB at e
 induction cd using PySem.Value.casesOn<;>first | exact Bool.noConfusion e | skip
 rename_i c
 dsimp only at e
 cases ho:h.get? c with
 | none=>rw [ho] at e;exact Bool.noConfusion e
 | some o=>
  replace e:=ho▸e
  dsimp only at e
  cases hd:o.data<;>rw [hd] at e<;>first | exact Bool.noConfusion e | skip
  rename_i vs
  dsimp only at e
  cases hv:(vs[1]?:Option Value) with
  | none=>replace e:=hv▸e;exact Bool.noConfusion e
  | some v=>
   rw [hv] at e
   induction v using PySem.Value.casesOn<;>first | exact Bool.noConfusion e | skip
   exact ⟨c,o,vs,_,rfl,ho,hd,by rw [hv,Law.sq_of e]⟩
theorem jq0 {h:Heap} {fd:FuncData} {ds:List AV} {ps:List Str} (e:dAt h.get? fd.defaults ds=true) (P:jnI fd.params ps) (nd:ps.Nodup) (hl:ds.length≤ps.length) :
  ∃ dv:List Value,(∀ c σ h,VRels c σ h ds dv)∧∀ vals:List Value,vals.length≤ps.length→ps.length≤vals.length+ds.length→∀ s:Shared,(∀ b o,h.get? b=some o→s.heap.get? b=some o)→BindsTo s fd ⟨vals,[]⟩ (ps.zip (vals++dv.drop (vals.length+dv.length - ps.length))):=by
 have fin:∀ {dv:List Value},ds.length=dv.length→(∀ c σ h,VRels c σ h ds dv)→(∀ s:Shared,(∀ b o,h.get? b=some o→s.heap.get? b=some o)→∀ (M:Model) (A:Around) (E:Value→Shared→Prop) (Q:Option (Array Value)→Shared→Prop),(∀ o,(o.getD #[]).toList=dv→Q o s)→wpAny M A (seqItems? fd.defaults) Q E s)→
   ∃ dv:List Value,(∀ c σ h,VRels c σ h ds dv)∧∀ vals:List Value,vals.length≤ps.length→ps.length≤vals.length+ds.length→∀ s:Shared,(∀ b o,h.get? b=some o→s.heap.get? b=some o)→BindsTo s fd ⟨vals,[]⟩ (ps.zip (vals++dv.drop (vals.length+dv.length - ps.length))):=fun {dv} hlen hv hs=>by
  refine ⟨dv,hv,fun vals h1 h2 s k M A E Q q=>?_⟩
  refine xEA (jsD P nd (V:=vals) (D:=dv) h1 (hlen▸h2) (hlen▸hl)) fun K e1 e2=>?_
  rw [e1]
  exact wpAny_bind (hs s k M A E _ fun o ho=>by rw [e2 o ho];exact wpAny_pure q)
 unfold dAt at e
 cases hd:fd.defaults<;>rw [hd] at e fin<;>first | exact Bool.noConfusion e | skip
 ·refine fin (dv:=[]) (congrArg List.length (List.isEmpty_iff.1 e)) (fun _ _ _=>by rw [List.isEmpty_iff.1 e];exact .nil) fun s k M A E Q q=>wpAny_pure (q none rfl)
 ·rename_i T
  dsimp only at e
  cases ho:h.get? T with
  | none=>replace e:=ho▸e;exact Bool.noConfusion e
  | some o=>
   rw [ho] at e
   dsimp only at e
   cases hx:o.data<;>rw [hx] at e<;>first | exact Bool.noConfusion e | skip
   exact fin (jpB e) (fun _ _ _=>jpH e) fun s k M A E Q q=>wpAny_seqItems (k _ _ ho) hx (q _ rfl)
end Mine
end
section
open PySem PySem.W PyProof.Rows PySem.Calls
namespace Mine
open Law (IS Row zN sq prg vU yO qY qK y4)
noncomputable def seeF (g:Addr→Option Obj) (r:Row) (fd:FuncData):Option (List IS)×Bool:=
 ((jp5 fd.body).bind (trl (trS isCQ prg jpJ (r.ps++r.ex) 60 fd.scope)),
 jsT fd.params r.ps&&(defOk fd.scope r.ps&&(qK (r.ps++r.ex)&&(Nat.beq fd.globals mainGlobals&&(Nat.beq fd.builtins builtinsNs&&(fd.closure.isEmpty&&(codeB g fd.code fd.qualname&&(dAt g fd.defaults r.ds&&Nat.ble r.ds.length r.ps.length))))))))
noncomputable def isFnT:Option Value→Bool
 | some (.type s)=>s == "function"
 | _=>false
noncomputable def initOf (K:Frag) (a:Addr):Option Addr:=refOf (findIn K (.ref a) "__init__").join
noncomputable def seeR (g:Addr→Option Obj) (mg:Str→Option Value) (K:Frag) (r:Row):Option ((Option (List IS)×Bool)×Bool):=(refOf (mg r.x)).bind fun a=>match r.isC with
 | false=>(g a).bind fun o=>(fdOf o.data).map fun fd=>(seeF g r fd,keepIn K (.ref a))
 | true=>(initOf K a).bind fun f=>(g f).bind fun o=>(fdOf o.data).map fun fd=>(seeF g r fd,keepIn K (.ref a)&&(makesIn K a&&(isFnT (typeIn K (.ref f))&&(vU r.x clsNames&&((g a).isSome&&attrNames.all (nX K a))))))
noncomputable def nsG (g:Addr→Option Obj) (a:Addr) (name:Str):Option Value:=match g a with
 | some o=>(match o.data with | .dict es _=>nsFind es name | _=>none)
 | none=>none
noncomputable def jjE (g:Addr→Option Obj) (a:Addr):Frag:=match g a with
 | some o=>[(a,o)]
 | none=>[]
noncomputable def fragOf (g:Addr→Option Obj) (mg:Str→Option Value) (r:Row):Frag:=match refOf (mg r.x) with
 | none=>[]
 | some a=>jjE g a++match g a with
  | some o=>(match o.data with
   | .cls cd=>jjE g cd.ns++(match refOf (nsG g cd.ns "__init__") with
    | some f=>jjE g f
    | none=>[])
   | _=>[])
  | none=>[]
noncomputable def kOf (g:Addr→Option Obj) (mg:Str→Option Value):Frag:=(prg.drop 80++prg.take 80).flatMap (fragOf g mg)
noncomputable def bNames:List Str:=["len","min","max","sorted","list","bytes","bytearray","range"]
noncomputable def jtH (mg:Str→Option Value) (p:Str×Int):Bool:=match mg p.1 with
 | some (.int i _)=>decide (i=p.2)
 | _=>false
noncomputable def jsC (g:Addr→Option Obj) (mg:Str→Option Value):List (Option ((Option (List IS)×Bool)×Bool))×Bool:=
 (prg.map (seeR g mg (kOf g mg)),bNames.all (fun x=>(mg x).isNone)&&(globs.all (jtH mg)&&(g sysModules).isSome))
noncomputable def look (h:Heap):List (Option ((Option (List IS)×Bool)×Bool))×Bool:=jsC h.get? (h.nsMap mainGlobals)
noncomputable def gG:List (Option ((Option (List IS)×Bool)×Bool))×Bool:=(prg.map fun r=>some ((some r.is,true),true),true)
theorem jf0 {h:Heap} {a:Addr}:∀ p∈jjE h.get? a,h.get? p.1=some p.2:=by
 unfold jjE
 cases e:h.get? a with
 | none=>exact fun p hp=>nomatch hp
 | some o=>exact fun p hp=>by rw [List.mem_singleton.1 hp];exact e
theorem jrE {h:Heap} {mg:Str→Option Value} {r:Row}:∀ p∈fragOf h.get? mg r,h.get? p.1=some p.2:=fun p hp=>by
 unfold fragOf at hp
 cases h1:refOf (mg r.x) with
 | none=>rw [h1] at hp;exact nomatch hp
 | some a=>
  rw [h1] at hp
  refine (List.mem_append.1 hp).elim (jf0 p) fun hp=>?_
  cases h2:h.get? a with
  | none=>rw [h2] at hp;exact nomatch hp
  | some o=>
   replace hp:=h2▸hp
   dsimp only at hp
   cases h3:o.data<;>rw [h3] at hp<;>first | exact absurd hp List.not_mem_nil | skip
   refine (List.mem_append.1 hp).elim (jf0 p) fun hp=>?_
   split at hp
   ·exact jf0 p hp
   ·exact nomatch hp
theorem jqK {l:Frag} {a:Addr} {o:Obj} (h:l.lookup a=some o):(a,o)∈l:=by
 induction l with
 | nil=>exact j0 h
 | cons p r ih=>
  obtain ⟨b,x⟩:=p
  rw [List.lookup_cons] at h
  cases e:a==b with
  | true=>rw [e] at h;rw [eq_of_beq e,← Option.some.inj h];exact .head _
  | false=>rw [e] at h;exact .tail _ (ih h)
theorem kOf_in {h:Heap} {mg:Str→Option Value}:(kOf h.get? mg).In h:=fun a o e=>(List.mem_flatMap.1 (jqK e)).elim fun r g=>jrE (a,o) g.2
section
variable {c:Cx} {h:Heap} {r:Row}
theorem jlM {a:Addr} {o:Obj} {fd:FuncData} (hk:∀ b o,h.get? b=some o→c.H0.get? b=some o) (ho:h.get? a=some o) (hd:o.data = .func fd) (e:seeF h.get? r fd=(some r.is,true)):∃ b,jlC c isCQ prg jpJ r a o fd b:=by
 refine xA (Prod.mk.inj e) fun e1 e2=>?_
 refine xEA (wD e1) fun b hb ht=>?_
 have g1:=j4 e2
 have g2:=j4 g1.2
 have g3:=j4 g2.2
 have g4:=j4 g3.2
 have g5:=j4 g4.2
 have g6:=j4 g5.2
 have g7:=j4 g6.2
 have g8:=j4 g7.2
 have nd:=y4 g3.1
 refine xEA (jq0 g8.1 (jrJ g1.1) (List.nodup_append.1 nd).1 (Nat.le_of_ble_eq_true g8.2)) fun dv d1 d2=>?_
 exact ⟨b,{ ok:=jrK g2.1,nd:=nd,tr:=ht,get:=hk _ _ ho,data:=hd,body:=jlT hb,glob:=Nat.eq_of_beq_eq_true g4.1,blt:=Nat.eq_of_beq_eq_true g5.1,clo:=List.isEmpty_iff.1 g6.1,code:=(js5 g7.1).keeps hk,bind:=⟨dv,d1 c,fun vals h1 h2 s k=>d2 vals h1 h2 s fun b o e=>k b o (hk b o e)⟩}⟩
theorem jfA:(clsNames.all fun x=>match zN x prg with | some r=>r.isC | none=>false)=true:=by decide +kernel
theorem joL (e:look h=gG) (hk:∀ b o,h.get? b=some o→c.H0.get? b=some o) (hm:c.mg=h.nsMap mainGlobals) (hK:c.K=kOf h.get? (h.nsMap mainGlobals)):TabOk c isCQ prg jpJ∧ja3 c prg jpJ∧mX c∧Free c∧kS c:=by
 refine xA (Prod.mk.inj e) fun e1 e2=>?_
 have f1:=j4 e2
 have f2:=j4 f1.2
 rw [← hm] at f1 f2 hK
 rw [← hm,← hK] at e1
 have row:∀ x r,zN x prg=some r→seeR h.get? c.mg c.K r=some ((some r.is,true),true):=fun x r hr=>List.map_inj_left.1 e1 r (gP hr).1
 have fnF:∀ x r,zN x prg=some r→r.isC=false→∃ a o fd,c.mg x=some (.ref a)∧h.get? a=some o∧o.data = .func fd∧seeF h.get? r fd=(some r.is,true)∧keepIn c.K (.ref a)=true:=fun x r hr hc=>by
  refine xEA (wD (row x r hr)) fun a ha q=>?_
  rw [hc] at q
  refine xEA (wD q) fun o ho q=>?_
  refine xEA (mI q) fun fd hd q=>?_
  refine xA (Prod.mk.inj q) fun q1 q2=>?_
  exact ⟨a,o,fd,by rw [← (gP hr).2];exact gX ha,ho,jk0 hd,q1,q2⟩
 have clF:∀ x r,zN x prg=some r→r.isC=true→∃ C fI o fd,ClsAt c r.x C fI∧c.mg x=some (.ref C)∧(∃ o,h.get? C=some o)∧keepIn c.K (.ref C)=true∧h.get? fI=some o∧o.data = .func fd∧seeF h.get? r fd=(some r.is,true)∧∀ a∈attrNames,nX c.K C a=true:=fun x r hr hc=>by
  refine xEA (wD (row x r hr)) fun a ha q=>?_
  rw [hc] at q
  refine xEA (wD q) fun f hf q=>?_
  refine xEA (wD q) fun o ho q=>?_
  refine xEA (mI q) fun fd hd q=>?_
  refine xA (Prod.mk.inj q) fun q1 q2=>?_
  have g1:=j4 q2
  have g2:=j4 g1.2
  have g3:=j4 g2.2
  have g4:=j4 g3.2
  have g5:=j4 g4.2
  have hi:findIn c.K (.ref a) "__init__" = some (some (.ref f)):=by
   have:=gX hf
   cases hx:findIn c.K (.ref a) "__init__" with
   | none=>rw [hx] at this;exact j0 this
   | some v=>rw [hx] at this;exact congrArg some this
  have ht:typeIn c.K (.ref f)=some (.type "function"):=by
   cases hx:typeIn c.K (.ref f) with
   | none=>rw [hx] at g3;exact Bool.noConfusion g3.1
   | some v=>
    rw [hx] at g3
    induction v using PySem.Value.casesOn<;>first | exact Bool.noConfusion g3.1 | exact congrArg (fun s=>some (Value.type s)) (eq_of_beq g3.1)
  exact ⟨a,f,o,fd,⟨yO g4.1,gX ha,g2.1,hi,ht⟩,by rw [← (gP hr).2];exact gX ha,Option.isSome_iff_exists.1 g5.1,g1.1,ho,jk0 hd,q1,List.all_eq_true.mp g5.2⟩
 refine ⟨⟨fun x r hr hc=>?_,fun x r hr hc=>?_⟩,⟨fun x r hr=>?_,fun x v hv=>?_⟩,fun cl hcl C hC a ha=>?_,fun x v hv=>?_,?_⟩
 ·refine jtE (fnF x r hr hc) fun a o fd g1 g2 g3 g4 g5=>?_
  refine xE (jlM (c:=c) hk g2 g3 g4) fun b D=>?_
  exact ⟨a,o,fd,b,g1,g5,D⟩
 ·refine mB (clF x r hr hc) fun C fI o fd g1 g2 q6q g4 g5 g6 g7 _=>?_;obtain ⟨oc,g3⟩:=q6q
  obtain ⟨b,D⟩:=jlM (c:=c) hk g5 g6 g7
  exact ⟨C,fI,o,fd,b,g1,g2,⟨oc,hk _ _ g3⟩,g4,D⟩
 ·induction hc:r.isC using Bool.casesOn with
  | false=>
   refine vQ (fnF x r hr hc) fun a o fd g1 g2 _=>?_
   exact ⟨a,o,g1,hk _ _ g2⟩
  | true=>
   refine jL (clF x r hr hc) fun C fI o fd g1 g2 q6q _=>?_;obtain ⟨oc,g3⟩:=q6q
   exact ⟨C,oc,g2,hk _ _ g3⟩
 ·refine xEA (jg0 hv) fun i hi q2q=>?_;obtain rfl:=q2q
  have q:=List.all_eq_true.mp f2.1 _ hi
  unfold jtH at q
  cases hx:c.mg x with
  | none=>replace q:=hx▸q;exact Bool.noConfusion q
  | some v=>
   rw [hx] at q
   induction v using PySem.Value.casesOn<;>first | exact Bool.noConfusion q | skip
   refine ⟨_,rfl,fun σ h=>?_⟩
   rw [of_decide_eq_true q];exact .int _ _
 ·have hr:=List.all_eq_true.mp jfA cl hcl
  cases hx:zN cl prg with
  | none=>rw [hx] at hr;exact Bool.noConfusion hr
  | some r=>
   rw [hx] at hr
   refine mB (clF cl r hx hr) fun C' fI o fd _ g2 _ _ _ _ _ g8=>?_
   rw [hC] at g2
   obtain rfl:=PySem.Value.ref.inj (Option.some.inj g2)
   exact g8 a ha
 ·have hn:x∈bNames:=by
   unfold jhY at hv
   unfold bNames
   by_cases h1:x = "len"
   ·rw [h1];simp
   rw [if_neg h1] at hv
   by_cases h2:x = "min"
   ·rw [h2];simp
   rw [if_neg h2] at hv
   by_cases h3:x = "max"
   ·rw [h3];simp
   rw [if_neg h3] at hv
   by_cases h4:x = "sorted"
   ·rw [h4];simp
   rw [if_neg h4] at hv
   by_cases h5:x = "list"
   ·rw [h5];simp
   rw [if_neg h5] at hv
   by_cases h6:x = "bytes"
   ·rw [h6];simp
   rw [if_neg h6] at hv
   by_cases h7:x = "bytearray"
   ·rw [h7];simp
   rw [if_neg h7] at hv
   by_cases h8:x = "range"
   ·rw [h8];simp
   rw [if_neg h8] at hv
   exact j0 hv
  exact Option.isNone_iff_eq_none.1 (List.all_eq_true.mp f1.1 x hn)
 ·exact (Option.isSome_iff_exists.1 f2.2).elim fun o g=>⟨o,hk _ _ g⟩
end
end Mine
end
section
open PySem PySem.W PyProof.Rows PySem.Calls
namespace Mine
noncomputable def Γ0:Ctx:=⟨.builtin "claim.caller" {},none,none,[],none⟩
theorem clean0:Clean Γ0:=⟨by decide +kernel,fun x hx=>by cases hx⟩
theorem ends_C {c:ClaimW} {tree:List Value→Sem Fin} {w:World} {s:Shared} {free:Addr→Prop} {gens:Prop} {kept:Heap→Prop} (hz:s.asleep) (hgens:s.gens = #[])
  (spec:∀ args,c.pre args=true→WData.layableAll args=true→∀ ord:List DictEntry→List DictEntry,(∀ l,(ord l).Perm l)→
   ∃ vs s₁,layAllW c.records (classAt s.heap) w.params ord args s=some (vs,s₁)∧
    wpC (model c.prog w) callerA (tree vs) (fun fin s'=>∃ f,fin = .done f∧(c.Ends s args vs s₁ (.ok f) s'∧s'.os=s.os∧AllBare s'.gens∧kept s'.heap))
     (fun e s'=>c.Ends s args vs s₁ (.error e) s'∧s'.os=s.os∧AllBare s'.gens∧kept s'.heap) s₁) :
  c.CallFrom (fun vs=>⟨tree vs,.builtin "claim.caller" {},default,[]⟩) w free gens kept s:=by
 intro args hpre hlay ord hord
 refine uN fun Gq kq=>?_
 refine kE (spec args hpre hlay ord hord) fun vs s₁ hl hq=>?_
 have rest:=layAllW_rest _ _ _ hl
 have run:Sem.wp (model c.prog w) Γ0 (tree vs) (Sem.finPost (model c.prog w) Γ0 fun r s'=>(c.Ends s args vs s₁ r s'∧s'.os=s.os∧kept s'.heap)∧leftWithCleanup s'.gens=false)
   (fun e _ s'=>(c.Ends s args vs s₁ (.error e) s'∧s'.os=s.os∧kept s'.heap)∧leftWithCleanup s'.gens=false) default s₁:=by
  refine Sem.wp_mono (model c.prog w) Γ0 (tree vs) (fun fin p' s' q=>?_) (fun e _ s' q=>?_) default s₁ (hq Γ0 default caller_in clean0)
  ·refine ja4 q fun f q1q q1 q2 q3 q4=>?_;obtain rfl:=q1q
   exact ⟨⟨q1,q2,q4⟩,leftWithCleanup_false_of_bare q3⟩
  ·exact ⟨⟨q.1,q.2.1,q.2.2.2⟩,leftWithCleanup_false_of_bare q.2.2.1⟩
 refine jn8 (wp_halts_full (M:=model c.prog w) (R:=fun r s'=>c.Ends s args vs s₁ r s'∧s'.os=s.os∧kept s'.heap) (Shared.asleep_of_life rest.2.2.2 hz) run) fun n r sa sb g1 g2 g3 g4 g5 g6=>?_
 refine nQ (Shared.forget_eq g3) fun eh _ _ eo _=>?_
 have fin:c.Ends s args vs s₁ r sb:=g4.congr eh
 refine kq ?_
 rw [← eo] at g5
 have life:sb.heap.life=s.heap.life:=(runN_life _ _ _ g2).trans rest.2.2.2
 have kp:kept sb.heap:=by first | exact eh▸g6 | (rw [eh] at g6;exact g6) | (rw [← eh] at g6;exact g6) | (rw [eh];exact g6)
 refine ⟨vs,s₁,hl,n,_,sb,g1,?_,(fun _ i x hx=>by rw [hgens] at hx;simp at hx),kp,by rw [life],Shared.rest_eq g5⟩
 rcases fin with ⟨v,rfl,d1,d2,d3,d4,d5⟩ | ⟨e,ob,cls,rfl,d1,d2,d3,d4,d5⟩
 ·exact .inl ⟨v,rfl,d1,d2,d3,fun b o y _=>d4 b o y,d5⟩
 ·exact .inr ⟨e,ob,cls,rfl,d1,d2,d3,d4,fun b o y _=>d5 b o y⟩
noncomputable abbrev WalkC {α:Type} (q:Program) (loose:List Str) (Yf:Shared→α) (Ya:World→α) (r:RowW):Prop:=
 ∀ (w:World) (s₀ s₁:Shared),Ground q loose r.records (fun _ _=>True) w s₀ (s₀.heap.nsMap mainGlobals) (s₀.heap.nsMap builtinsNs) s₀.heap→Yf s₀=Ya w→
  ∀ (args:List WData) (vals:List Value) (as:List Addr),r.claim.pre args=true→Laid r.records w s₀ s₁ args vals as→∃ a,s₀.heap.nsMap mainGlobals r.name=some (.ref a)∧
   wpC (model r.prog w) callerA (PySem.call (.ref a) vals) (fun v s'=>GoodWG r.claim (classAt s₀.heap) (ExcName.means s₀.heap) args s₁ (.ok (.ret v)) s')
    (fun e s'=>GoodWG r.claim (classAt s₀.heap) (ExcName.means s₀.heap) args s₁ (.error e) s') s₁
theorem jwD {r:OpenRow} {q:Program} {loose:List Str} {Xt:Shared→Bool} {α:Type} {Yf:Shared→α} {Ya:World→α} {d:DefRec} {kwd:List (Str×Expr)} {N:Nat}
  (left:LeftO r.prog q loose Xt Yf Ya N)
  (hdef:defOf q r.name=some (d,kwd)) (hp:r.prog.theDef r.name=some (d.params,d.body,d.scope)) (hk:kwWritten? d.params.kwonlyargs d.params.kw_defaults=some kwd) (hR:r.records=[]) (hwr:(!r.writes||r.records.isEmpty)=true)
  (k1:r.wellSaid=true) (ok:(chainsOk q&&opensWell r.prog&&(frees r.toRowW&&r.within.isEmpty))=true) (hb:r.prog.bare) (hw:r.toRowW.promised)
  (walk:WalkC q loose Yf Ya r.toRowW):r.Holds:=by
 refine xA (Bool.and_eq_true_iff.mp ok) fun ok1 ok2=>?_
 refine xA (Bool.and_eq_true_iff.mp ok1) fun hch op=>?_
 refine xA (Bool.and_eq_true_iff.mp ok2) fun fr wi=>?_
 refine nQ (frees_parts fr) fun hsame hu ha hap hm=>?_
 have hwi:r.toRowW.claim.within=[]:=List.isEmpty_iff.mp wi
 have hi:=ident_freeW (r:=r.toRowW) hu ha hap
 have L0:=left.behind (XP:=fun _ _=>True) (fun _ _=>trivial) hch
 refine ⟨k1,hw,⟨hb,op,by show r.toRowW.makers.map _=[];rw [hm];rfl⟩,hw.witness,fun w=>⟨(L0 w).1,fun s' hs'=>?_⟩⟩
 refine joC ((L0 w).2 s' hs') fun s₀ hf hg0 s hT hz hgens hg G2 y=>?_
 have G0:Ground q loose [] (fun _ _=>True) w s (s.heap.nsMap mainGlobals) (s.heap.nsMap builtinsNs) s.heap:=G2
 have RF:RecFacts r.records s.heap:=recFacts_nil hR
 refine ⟨s₀,hf,hg0,s,hT,fun n hn=>?_,RF.1,RF.2.1,?_⟩
 ·obtain rfl:n=r.name:=by split at hn<;>simp_all
  exact pinned_of_view hg G0 hdef hp hk
 have hgens:s.gens = #[]:=Array.eq_empty_of_size_eq_zero (beq_iff_eq.mp hgens)
 have G:Ground q loose r.records (fun _ _=>True) w s _ _ s.heap:=RF.ground G0
 refine ends_C (c:=r.toRowW.claim) hz hgens fun args hpre hlay ord hord=>?_
 refine uN fun Gq kq=>?_
 obtain ⟨⟨vs,s₁⟩,hlaid⟩:=Option.isSome_iff_exists.mp (layAllW_isSome (P:=w.params) (ord:=ord) G.has args r.toRowW.args s (pre_splitW hpre).1)
 have keeps:=layAllW_keeps _ _ _ hlaid
 have hal:=layAllW_rest _ _ _ hlaid
 refine yJ (reads_layAllW hord _ _ _ hlaid hlay s₁.heap (fun _ _ e=>e)) fun as hrd hin hold=>?_
 have L:Laid r.records w s s₁ args vs as:=⟨⟨ord,hord,hlaid⟩,hrd,hin,hold,keeps,hal.1.trans hgens,hal.2.2.1⟩
 refine xEA (walk w s s₁ G y args vs as hpre L) fun a h1 W1=>?_
 refine kq ?_
 refine ⟨vs,s₁,hlaid,j3 (wpAny_nsGet (G.T.g.keeps keeps) ?_)⟩
 rw [h1]
 refine j8 (y5 W1 (fun v s' g=>jE ⟨_,rfl,?_⟩) fun e s' g=>?_)
 ·have z:=g.laid (c:=r.toRowW.claim) hsame hwi hi L
  exact ⟨z.1,z.2.1,z.2.2,fun q=>⟨namesKept_of hT hg r.keeps keeps g.2.1.old,noTable hwr q⟩⟩
 ·have z:=g.laid (c:=r.toRowW.claim) hsame hwi hi L
  exact ⟨z.1,z.2.1,z.2.2,fun q=>⟨namesKept_of hT hg r.keeps keeps g.2.1.old,noTable hwr q⟩⟩
end Mine
end
section
open PySem PySem.W PyProof.Rows PySem.Calls
namespace Mine
section
variable {p q:Program} {loose:List Str} {Xt:Shared→Bool} {α:Type} {Yf:Shared→α} {Ya:World→α} {N:Nat} {g0:Bool}
theorem jkF {H₀:Params→Heap} {gs₀:Array GenState} {d₀:Drawn} {k₀ m₀ M:Nat} {ann:Option Value} {X:World→OsState→Shared}
  (open_:∀ w:World,(fencedOpening treeTable p w N).map (fun s=>(s.heap,s.gens,s.drawn,s.toks))=some (H₀ w.params,gs₀,d₀,k₀))
  (size:∀ w:World,((H₀ w.params).isNs mainGlobals&&gs₀.size==0,(H₀ w.params).objs.size,(H₀ w.params).nsMap mainGlobals "__annotations__")=(true,m₀,ann))
  (run:∀ (w:World) (os:OsState),topRun treeTable p w m₀ ann M ⟨H₀ w.params,gs₀,d₀,k₀,os⟩ (topStub p)=some (X w os)) (le:Nat.ble M N=true)
  (juQ:∀ (w:World) (os:OsState),((staticsOk (importedModules p.main.body) (H₀ w.params) (X w os).heap&&namesBound p (X w os).heap&&gensDone (X w os)&&laidKept (H₀ w.params) (X w os).heap),
    openSeen q loose (importedModules p.main.body) Xt g0 (X w os),Yf (X w os))=(true,openGood q loose,Ya w)):LeftO p q loose Xt Yf Ya N g0:=fun w=>by
 obtain ⟨⟨h,gs,d,k,os⟩,e,e'⟩:=Option.map_eq_some_iff.mp (open_ w)
 obtain ⟨rfl,rfl,rfl,rfl⟩:h=H₀ w.params∧gs=gs₀∧d=d₀∧k=k₀:=by simpa using e'
 obtain ⟨z1,z2,z3⟩:_∧_∧_:=by simpa only [Prod.mk.injEq] using size w
 obtain ⟨l1,l2,l3⟩:_∧_∧_:=by simpa only [Prod.mk.injEq] using juQ w os
 have r:=topRun_mono (N - M) _ _ _ _ (run w os)
 rw [show M+(N - M)=N by have:=Nat.le_of_ble_eq_true le;lia] at r
 have t:topFrom treeTable p w N ⟨H₀ w.params,gs,d,k,os⟩=some (X w os):=by
  unfold topFrom
  dsimp only
  rw [z1,z2,z3,r]
  show (match staticsOk (importedModules p.main.body) (H₀ w.params) (X w os).heap&&namesBound p (X w os).heap&&gensDone (X w os)&&laidKept (H₀ w.params) (X w os).heap with | true=>_ | false=>_)=_
  rw [l1]
 unfold openEnds
 rw [e]
 show (topFrom treeTable p w N _).map _=_
 rw [t]
 exact congrArg some (Prod.ext l2 l3)
end
noncomputable abbrev pp:Program:=PySem.Challenge.rw_pq1053_01.row.toRowW.prog
noncomputable def n9:Env:={ scope:=pp.main.scope,locals:=mainNs,globals:=mainNs,cells:=[],code:=.ref 13,frame:=some 14 }
noncomputable def jiL:List Stmt:=behindTheImports pp
noncomputable def y8:Code:=.body jiL n9
noncomputable def mF:Pos:=⟨0,0,0,0⟩
noncomputable def posE:Pos:=⟨816,0,835,40⟩
noncomputable abbrev xB:Option Value:=some (.ref 6)
noncomputable def boot (w:World) (os:OsState):Shared:=⟨boot_heap w.params,Array.mk [],boot_drawn,boot_toks,os⟩
noncomputable def jt4 (w:World) (os:OsState):Option (Shared×Thread):=topGo treeTable pp w 11 xB 12 (boot w os) (topStub pp)
noncomputable def topA (w:World) (os:OsState):Shared:=match jt4 w os with | some (s,_)=>s | none=>boot w os
noncomputable def treeOf (h:Heap):Nat→Nat→Nat→BT
 | 0,_,_=>.nil
 | n+1,a,b=>match h.objs[b]? with
  | some o=>.node o (treeOf h n (2*a) (a+b)) (treeOf h n (2*a) (2*a+b))
  | none=>.nil
noncomputable def topT (w:World) (os:OsState):SharedT:=⟨treeOf (topA w os).heap 6 1 0,15,{},Array.mk [],{},187,os⟩
set_option maxHeartbeats 0 in
theorem pre_ok (w:World) (os:OsState):jt4 w os=some (topA w os,⟨denote treeTable y8,y8,mF,[topFrame mF]⟩):=by kernel_rfl
set_option maxHeartbeats 0 in
theorem jvL (w:World) (os:OsState):segRun treeTable pp w 11 xB 1 1 (topA w os) (blockOf jiL n9 y8 mF [topFrame mF])=some (.next,(topT w os).abs,y8,mF):=by kernel_rfl
end Mine
end
section
open PySem PySem.W PyProof.Rows PySem.Calls
namespace Mine
noncomputable def jnB (w:World) (os:OsState) (n:Nat) (l:List Stmt) (p:Pos) (s:SharedT):Option (Flow×SharedT×Code×Pos):=
 PySem.W.Fast.tw10110043849684766642 PySem.W.Fast.tw14364793385576792824 pp w 11 xB 1 n s (piecesOf l n9 y8 p [topFrame mF])
noncomputable def stateOf (s:SharedT):Option (Flow×SharedT×Code×Pos)→SharedT
 | some (_,s',_,_)=>s'
 | none=>s
noncomputable def cutPy:Str:=.mk (.mk [47,99,108,97,105,109,47,99,117,116,46,112,121])
noncomputable def vStrs:List Str→Nat→List Value
 | [],_=>[]
 | x::r,t=>.str x t::vStrs r (t+1)
noncomputable def isLoc:NameKind→Bool
 | .local=>true
 | _=>false
noncomputable def modName (d:Data):Value:=match d with
 | .dict es _=>match es[0]? with
  | some e=>e.val
  | none=>.none
 | _=>.none
noncomputable def juT (e:DictEntry) (o:Obj):Obj:=match o with
 | ⟨c,d,.dict es ep,sl⟩=>⟨c,d,.dict (es.push e) (ep+1),sl⟩
 | o=>o
noncomputable def jvY (l:Nat) (a:Addr) (o:Obj):Obj:=match o with
 | ⟨c,d,.fields vs,sl⟩=>⟨c,d,.fields (((vs.push (.int l 0)).push (.int 0 0)).push (.ref a)),sl⟩
 | o=>o
noncomputable def nJ (c:Value) (d:Data):Obj:=⟨c,none,d,.mk []⟩
noncomputable def ffDef (w:World) (name:Str) (args:Arguments) (body:List Stmt) (scope:Scope) (line:Nat) (s:SharedT):SharedT:=match s with
 | ⟨T,n,life,gens,drawn,t,os⟩=>
  let vs:=(scope.names.filter fun p=>isLoc p.2).map (·.1)
  let m:=t+3+vs.length
  let md:=match T.get 3 with | some o=>modName o.data | none=>.none
  let fd:FuncData:={ name:=name,qualname:=name,params:=args,body:=.stmts body,scope:=scope,globals:=0,closure:=[],defaults:=.none,kwdefaults:=.none }
  let code:List Value:=[.str name t,.str name (t+1),.str cutPy (t+2),.int line 0,.int args.args.length 0,.int 0 0,.int 0 0,.int 3 0,.ref n,.bool true,.int 181 0,.ref (n+1),.none,.ref (n+2),.ref (n+3),.ref (n+4),.int m 0,.int line 0,.str cutPy (m+1)]
  ⟨((((((((T.ins n (nJ (.type "tuple") (.seq (.mk []) 0))).ins (n+1) (nJ .none (.fields (.mk [])))).ins (n+2) (nJ (.type "tuple") (.seq (.mk (vStrs vs (t+3))) 0))).ins (n+3) (nJ (.type "tuple") (.seq (.mk []) 0))).ins (n+4) (nJ .none (.func fd))).ins (n+5) (nJ (.type "code") (.fields (.mk code)))).ins (n+6) (nJ (.type "function") (.func { fd with globals:=3,pyModule:=md,code:=.ref (n+5)}))).set 3 (juT ⟨hashStr w name,.str name (m+2),.ref (n+6)⟩)).set 12 (jvY line (n+5)),
   n+7,life,gens,drawn,m+3,os⟩
noncomputable def ff1 (w:World) (os:OsState) (slow:Bool) (st:Stmt) (s:SharedT):SharedT:=match slow with
 | true=>stateOf s (jnB w os 2000 [st] mF s)
 | false=>match st with
  | .FunctionDef name args body _ _ _ scope _ _ pos=>ffDef w name args body scope pos.line s
  | _=>s
noncomputable def slows:List Nat:=[40,94,111,114,115,120]
noncomputable def isDef:Stmt→Bool
 | .FunctionDef ..=>true
 | _=>false
noncomputable def stL (w:World) (os:OsState):List Stmt→Nat→SharedT→SharedT
 | [],_,s=>s
 | st::r,k,s=>stL w os r (k+1) (ff1 w os (!isDef st||slows.contains k) st s)
noncomputable def g9:Nat→List Stmt
 | 0=>jiL
 | i+1=>(g9 i).drop 31
noncomputable def xQ (w:World) (os:OsState):Nat→SharedT
 | 0=>topT w os
 | i+1=>stL w os ((g9 i).take 31) (31*i) (xQ w os i)
noncomputable def topX (w:World) (os:OsState):SharedT:=xQ w os 4
noncomputable def vA (w:World) (os:OsState):Shared:=(topX w os).abs
theorem jxW (w:World) (os:OsState) (n:Nat) (l:List Stmt) (p:Pos) (s:SharedT):segRunT treeTable pp w 11 xB 1 n s (piecesOf l n9 y8 p [topFrame mF])=jnB w os n l p s:=by
 rw [PySem.W.Fast.te10110043849684766642,PySem.W.Fast.te14364793385576792824];rfl
theorem chain {w:World} {os:OsState} {n N m:Nat} {l:List Stmt} {p p':Pos} {s s':SharedT} {r:Shared} (h:jnB w os n (l.take m) p s=some (.next,s',y8,p')) (k:topRun treeTable pp w 11 xB N s'.abs (restOf (l.drop m) n9 y8 p' [topFrame mF])=some r) :
  topRun treeTable pp w 11 xB (n+N) s.abs (restOf l n9 y8 p [topFrame mF])=some r:=by
 have:=piece_app (segRun_of ((jxW w os n (l.take m) p s).trans h)) k
 rw [List.take_append_drop] at this
 exact this
noncomputable def gt (s:SharedT) (a:Addr):Option Obj:=match Nat.blt a s.n with
 | true=>alive ((s.tree.get a).getD default)
 | false=>none
theorem get_alive {h:Heap} {a:Addr}:h.get? a=(h.objs[a]?).bind alive:=by
 show (match h.objs[a]? with | some ⟨_,_,.freed,_⟩=>none | o=>o)=_
 cases h.objs[a]? with
 | none=>rfl
 | some o=>
  obtain ⟨c,d,dt,sl⟩:=o
  cases dt<;>rfl
theorem gt_eq (s:SharedT):s.abs.heap.get? = gt s:=funext fun a=>by
 refine get_alive.trans ((congrArg (fun o:Option Obj=>o.bind alive) (absHeap_at ..)).trans ?_)
 delta gt
 cases e:Nat.blt a s.n with
 | true=>exact congrArg (fun o:Option Obj=>o.bind alive) (if_pos (Nat.le_of_ble_eq_true e))
 | false=>exact congrArg (fun o:Option Obj=>o.bind alive) (if_neg fun q=>Bool.false_ne_true (e.symm.trans (Nat.ble_eq_true_of_le q)))
end Mine
end
section
open PySem PySem.W PyProof.Rows PySem.Calls
namespace Mine
set_option maxHeartbeats 0 in
theorem seg0 (w:World) (os:OsState):jnB w os 2500 ((g9 0).take 31) mF (xQ w os 0)=some (.next,xQ w os 1,y8,⟨159,0,172,23⟩):=by kernel_rfl
end Mine
end
section
open PySem PySem.W PyProof.Rows PySem.Calls
namespace Mine
set_option maxHeartbeats 0 in
theorem seg1 (w:World) (os:OsState):jnB w os 2500 ((g9 1).take 31) ⟨159,0,172,23⟩ (xQ w os 1)=some (.next,xQ w os 2,y8,⟨321,0,329,40⟩):=by kernel_rfl
end Mine
end
section
open PySem PySem.W PyProof.Rows PySem.Calls
namespace Mine
set_option maxHeartbeats 0 in
theorem seg2 (w:World) (os:OsState):jnB w os 2500 ((g9 2).take 31) ⟨321,0,329,40⟩ (xQ w os 2)=some (.next,xQ w os 3,y8,⟨544,0,549,70⟩):=by kernel_rfl
end Mine
end
section
open PySem PySem.W PyProof.Rows PySem.Calls
namespace Mine
set_option maxHeartbeats 0 in
theorem seg3 (w:World) (os:OsState):jnB w os 2500 ((g9 3).take 31) ⟨544,0,549,70⟩ (xQ w os 3)=some (.next,xQ w os 4,y8,⟨816,0,835,40⟩):=by kernel_rfl
end Mine
end
section
open PySem PySem.W PyProof.Rows PySem.Calls
namespace Mine
noncomputable def keepL:List Nat:=[122]
noncomputable def zR:Program:=view pp keepL
noncomputable def yU:List Str:=(["WallFault","Misused","number_of","new_meta","Packet","family_of","base_of","part","address_at","target_of","look4","head_size","size_at","place_at","look6","WORD","MOST_SCALE","options_till","scale_of","may_sack"]:List Str)++(["sack_edge","error_kinds","DYING","Talk","TalkBook","is_icmp","is_error","answer_kind","ports_at","tuple_at","inner_tuple","invert","side_of","drop_talk","look_up","SEEN_REPLY","ASSURED","INVALID","RELATED","UNTRACKED"]:List Str)++(["UDP_SPAN","UDP_STREAM_SPAN","UDP_STREAM_FROM","ICMP_SPAN","PLAIN_SPAN","begin_any","go_udp","begin_icmp","go_icmp","go_plain","talk_of_error","is_error_packet","error_talk","error_or_near","udp_trackers","icmp_trackers","plain_trackers","Expect","sort_of","flags_are_right"]:List Str)++(["next_state","tcp_span","before","after","Side","segment_of","end_of","note_options","open_side","answer_side","begin_side","take_up","is_within","move_sender","move_receiver","meet_sender","in_window","begin_tcp","is_refused","refresh_tcp"]:List Str)++(["go_tcp","tcp_trackers","tracker_of","all_trackers","new_talks","sweep","evict","confirm","Scene","_law_draw","_law_digits","_law_host","_law_turned","_law_due","_law_does_track","_law_does_err","_law_are_trackers","_law_tuple","_law_ends","_law_out"]:List Str)++(["_law_find","_law_enter","_law_sweep","_law_room","_law_begin","_law_seek","_law_hang","_law_event","_law_is_book","_law_are_talks"]:List Str)
noncomputable def topXt (s:Shared):Bool:=xlAt zR [] s&&recOk [] s
end Mine
end
section
open PySem PySem.W PyProof.Rows PySem.Calls
namespace Mine
set_option maxHeartbeats 0 in
theorem lkA (w:World) (os:OsState):(seen ((recsOf zR).map (·.name)) (ownsOf zR) [] { vA w os with gens:=#[]},((vA w os).heap.bltView,(((vA w os).heap.keysOk (looseW zR yU) ((recsOf zR).map (·.name)) ((litsOf zR).map (·.1)) ((clssOf zR (looseW zR yU)).map (·.name))&&(vA w os).heap.accountedOkI (importedModules pp.main.body)&&(vA w os).heap.isNs mainGlobals&&(vA w os).heap.isNs builtinsNs&&tablesOk zR (vA w os).heap&&topXt (vA w os)&&((vA w os).gens.size==0)),(tabsOk zR (vA w os),(pinSeenD zR (drecsOf zR) (vA w os),(plainSeenE zR (looseW zR yU) (vA w os),(plainSeenD zR yU (vA w os),(wideSeen zR (vA w os),(clsSeenW zR yU (vA w os),(staticsOk (importedModules pp.main.body) (boot_heap w.params) (vA w os).heap&&namesBound pp (vA w os).heap&&gensDone (vA w os)&&laidKept (boot_heap w.params) (vA w os).heap))))))))))=(expectedOf zR,(bltViewBooted,(true,(true,(pinGoodD (drecsOf zR),(plainGoodE zR (looseW zR yU),(plainGoodD zR yU,(wideGood zR,(clsGoodW zR yU,true))))))))):=by rw [PySem.W.Fast.te3399658132070893891,PySem.W.Fast.te10880121769531294198,PySem.W.Fast.te821141287760084731,PySem.W.Fast.te7409074990110511671,PySem.W.Fast.te13664370479719496447,PySem.W.Fast.te14722251495701143533,PySem.W.Fast.te10994771534591457954,PySem.W.Fast.te479339242167458305,PySem.W.Fast.te16090120013241838585,PySem.W.Fast.te3247288618530077131,PySem.W.Fast.te2386780881361962483,PySem.W.Fast.te11698064438423848299,PySem.W.Fast.te7317090234206586261,PySem.W.Fast.te7369524293546568484,PySem.W.Fast.te5923862056798008813,PySem.W.Fast.te5160383126252970620,PySem.W.Fast.te5991557255702980513];kernel_rfl
end Mine
end
section
open PySem PySem.W PyProof.Rows PySem.Calls
namespace Mine
set_option maxHeartbeats 0 in
theorem lkB (w:World) (os:OsState):jsC (gt (topX w os)) ((vA w os).heap.nsMap mainGlobals)=gG:=by rw [PySem.W.Fast.te8920871248978507458];kernel_rfl
end Mine
end
section
open PySem PySem.W PyProof.Rows PySem.Calls
namespace Mine
open Law (prg)
theorem jxN (w:World) (s:Shared):topRun treeTable pp w 11 xB 5 s ⟨doneF .next,y8,posE,[topFrame mF]⟩=some s:=by kernel_rfl
theorem jsP:g9 4=[]:=by kernel_rfl
theorem jrR (w:World) (os:OsState):topRun treeTable pp w 11 xB 5 (xQ w os 4).abs (restOf (g9 4) n9 y8 posE [topFrame mF])=some (vA w os):=by
 rw [jsP]
 exact piece_nil (jxN w _)
theorem jw8 (w:World) (os:OsState):topRun treeTable pp w 11 xB (12+(1+(2500+(2500+(2500+(2500+5)))))) (boot w os) (topStub pp)=some (vA w os):=
 go_top (pre_ok w os) (piece_block (jvL w os) (chain (seg0 w os) (chain (seg1 w os) (chain (seg2 w os) (chain (seg3 w os) (jrR w os))))))
theorem mW (w:World) (os:OsState):look (vA w os).heap=gG:=(congrArg (jsC · _) (gt_eq (topX w os))).trans (lkB w os)
theorem js6:∀ w:World,(fencedOpening treeTable pp w (12+(1+(2500+(2500+(2500+(2500+5))))))).map (fun s=>(s.heap,s.gens,s.drawn,s.toks))=some (boot_heap w.params,Array.mk [],boot_drawn,boot_toks):=
 boot_open (by kernel_rfl) (by kernel_rfl) fun s=>by kernel_rfl
theorem jsM:LeftO pp zR yU topXt (fun s=>look s.heap) (fun _=>gG) (12+(1+(2500+(2500+(2500+(2500+5)))))):=
 jkF js6 (fun w=>by kernel_rfl) jw8 (by kernel_rfl) fun w os=>by
  refine xA (Prod.mk.inj (lkA w os)) fun b e=>xA (Prod.mk.inj e) fun a1 e=>xA (Prod.mk.inj e) fun a2 e=>xA (Prod.mk.inj e) fun a3 e=>xA (Prod.mk.inj e) fun a4 e=>xA (Prod.mk.inj e) fun a5 e=>xA (Prod.mk.inj e) fun a6 e=>xA (Prod.mk.inj e) fun a7 e=>xA (Prod.mk.inj e) fun a8 a9=>?_
  delta openSeen openGood
  rw [b,a1,if_pos rfl,a2,a3,a4,a5,a6,a7,a8,a9,mW w os]
end Mine
end
section
open PySem PySem.W PyProof.Rows PySem.Calls
namespace Mine
open Law (prg j1)
theorem jg4 {R:WRecords} {P:Params} {h:Heap}:∀ {vs:List Value} {ds:List WData},WellAll P h vs ds→WShape.hasItems R ds .int=true→∃ xs:List Int,ds.length=xs.length∧∀ c σ,VRels c σ h (xs.map .int) vs
 | _,_,.nil,_=>⟨[],rfl,fun _ _=>.nil⟩
 | v::vs,d::ds,.cons W Ws,e=>by
  have e':(WShape.has R d .int&&WShape.hasItems R ds .int)=true:=e
  obtain ⟨xs,h1,h2⟩:=jg4 Ws (j4 e').2
  have e1:=(j4 e').1
  cases W with
  | int i t=>exact ⟨i::xs,congrArg Nat.succ h1,fun c σ=>.cons (.int i t) (h2 c σ)⟩
  | _=>exact Bool.noConfusion e1
noncomputable abbrev rwL:OpenLaw:=PySem.Challenge.rw_pq1053_01
theorem or_f {a:Bool} (h:(a||false)=true):a=true:=(Bool.or_false a).symm.trans h
theorem room0:Room callerA 11:=⟨rfl,by decide +kernel,by decide +kernel⟩
noncomputable def preB (b:Bool):Bool:=WTm.holds [] (.and (.not (.lit (.bool b))) (.lit (.bool true))) { args:=[]}
theorem jwX {ds:List WData} (h:rwL.row.toRowW.pre.holds [] { args:=[.list ds]}=true):ds.length≤63:=by
 have h:preB (decide ((63:Int) < (ds.length:Int)))=true:=h
 cases q:decide ((63:Int) < (ds.length:Int))
 ·have:=of_decide_eq_false q
  lia
 ·exact Bool.noConfusion ((congrArg preB q).symm.trans h)
theorem jt7 {c:Cx} {h h':Heap} {σ':Sig} {S':St} {a:Addr} {ob:Obj} {its:Array Value} {n:Nat} {xs:List AV} (T:Step c [(a,none)] h σ' h') (R:Rep c σ' S' h') (h0:S'[0]? = some (.list xs))
  (e:h.get? a=some ob) (hd:ob.data = .seq its n) (hl:its.size=xs.length):OldK h h':=by
 refine OldK.of_keep fun b o eb=>?_
 by_cases q:b=a
 ·subst q
  rw [e] at eb;cases eb
  obtain ⟨o',i',n',g1,g2,_,g4⟩:=T.sq b ob its n e hd List.not_mem_nil
  obtain ⟨m,hm⟩:=T.grow
  have:=R.obj 0 (b,none) _ (by rw [hm];rfl) h0
  cases this with
  | list _ _ vs hp hv=>
   obtain ⟨o2,n2,f1,_,_,f2⟩:=hp
   rw [g1] at f1;cases f1
   rw [g2] at f2;cases f2
   rw [g1,g4 (by rw [hl,hv.length];simp)]
 ·exact T.ext b o eb (by simpa [jZ] using q)
theorem jwR (ds:List WData):rwL.row.toRowW.claim.post [.list ds] (.bool true) [.list ds]=true:=by kernel_rfl
theorem jvC:WalkC zR yU (fun s=>look s.heap) (fun _=>gG) rwL.row.toRowW:=fun w s₀ s₁ G y args vals as hpre L=>by
 obtain ⟨h1,h2⟩:=pre_splitW hpre
 obtain ⟨d,r,rfl,hd,hr⟩:=hasAllW_cons h1
 obtain rfl:=hasAllW_nil hr
 have Wl:=L.well
 cases Wl with
 | cons W Ws=>
  cases Ws
  cases W with
  | @list a vs ds e Wi=>
   have hx:=jwX h2
   obtain ⟨xs,hl,hv⟩:=jg4 (R:=rwL.row.records) Wi (or_f hd)
   rw [hl] at hx
   have hn:s₀.heap.get? a=none:=by
    obtain ⟨_,_,a1,b1,e1,e2,r1,r2⟩:=L.reads.cons_inv
    cases e1
    obtain ⟨l,o,its,n,ai,g1,_,_,_,_,g2⟩:=readsW_list_open r1
    cases g1
    exact Heap.get?_none_of_le (L.within.2.2 a (by rw [e2,g2];exact .head _)).1
   let c:Cx:=⟨pp,w,kOf s₀.heap.get? (s₀.heap.nsMap mainGlobals),s₀.heap.nsMap mainGlobals,s₀.heap.nsMap builtinsNs,s₀.heap⟩
   obtain ⟨TT,GO,AT,FR,SY⟩:=joL (c:=c) y (fun _ _ e=>e) rfl rfl
   obtain ⟨S',h0,hc⟩:=Law.law_ok hx
   obtain ⟨fa,hm,_,_,run⟩:=jjA (c:=c) ⟨⟨G.T.g,G.T.b,G.T.nolimit,kOf_in,G.T.builtins⟩,AT,FR,SY⟩ GO TT 11 callerA room0 "law" _ _ _ _ hc
   have rep:Rep c [(a,none)] [.list (xs.map .int)] s₁.heap:={
    len:=rfl
    obj:=fun k p o hk ho=>by
     cases k with
     | zero=>cases hk;cases ho;exact .list _ _ vs ⟨_,_,e,rfl,rfl,rfl⟩ (hv _ _)
     | succ k=>cases hk
    nodup:=by simp [jZ]
    fresh:=fun b hb=>by
     have:b=a:=by simpa [jZ] using hb
     rw [this];exact hn
    keep:=L.keeps }
   refine ⟨fa,hm,run [.ref a] [(a,none)] s₁ _ _ rep (.cons (.ref 0 a none rfl) .nil) fun σ' h' t' v R' T' V=>?_⟩
   cases V
   exact ⟨.inl ⟨_,.bool true,[],rfl,fun cls=>rfl,.bool true,jwR ds,fun _=>⟨.nil,fun _ h=>nomatch h⟩⟩,jt7 T' R' h0 e rfl (hv c []).length.symm,rfl,AllBare.of_eq L.gens⟩
  | _=>exact Bool.noConfusion (show false=true from hd)
noncomputable def lawD:DefRec×List (Str×Expr):=match defOf zR "law" with
 | some x=>x
 | none=>(⟨"",⟨[],[],none,[],[],none,[]⟩,[],pp.main.scope,mF⟩,[])
end Mine
end
section
open PySem PySem.W PyProof.Rows PySem.Calls
set_option maxHeartbeats 0
namespace Mine
theorem t1:defOf zR rwL.row.name=some (lawD.1,lawD.2):=by kernel_rfl
theorem t2:rwL.row.prog.theDef rwL.row.name=some (lawD.1.params,lawD.1.body,lawD.1.scope):=by kernel_rfl
theorem t3:kwWritten? lawD.1.params.kwonlyargs lawD.1.params.kw_defaults=some lawD.2:=by kernel_rfl
theorem t4:(chainsOk zR&&opensWell rwL.row.prog&&(frees rwL.row.toRowW&&rwL.row.within.isEmpty))=true:=by kernel_rfl
theorem t6:rwL.row.toRowW.promised:=⟨[.list []],by kernel_rfl,by kernel_rfl⟩
theorem t5:rwL.row.prog.bare:=⟨by kernel_rfl,by kernel_rfl,by kernel_rfl,by kernel_rfl,by kernel_rfl,by kernel_rfl⟩
theorem aT {a b:Bool} (h1:a=true) (h2:b=true):(a&&b)=true:=look_both h1 h2
noncomputable abbrev pr:Program:=rwL.row.prog
theorem v1:(sreFenced pr.main&&((moduleNames pr.main.body).isEmpty||lookedIntoSs (moduleNames pr.main.body) pr.main.body))=true:=by kernel_rfl
theorem v3:namesResolve pr=true:=by rw [PySem.W.Fast.te8377067652309620493];kernel_rfl
theorem v4:pr.boundNames.all (fun n=>!worldNames.contains n)=true:=by kernel_rfl
theorem v5a:(!(importedModules pr.main.body).all cThrough.contains)=false:=by kernel_rfl
theorem v5b:(["vars","dir","locals"]:List Str).filter (readsOut pr pr.main.body)=[]:=by rw [PySem.W.Fast.te13343964577679436407];kernel_rfl
theorem v5c:noRoadLSs { strict:=false,foot:=none,bare:=[]} pr.main.body=true:=by rw [PySem.W.Fast.te8326940854005059898];kernel_rfl
theorem v5:noRoadLSs { strict:=!(importedModules pr.main.body).all cThrough.contains,foot:=none,bare:=(["vars","dir","locals"]:List Str).filter (readsOut pr pr.main.body)} pr.main.body=true:=by rw [v5a,v5b];exact v5c
theorem v6:namesMeet pr pr.main.body (fun _ n=>attrL n)=true:=by rw [PySem.W.Fast.te17119622794617984870,PySem.W.Fast.te17868728402115742887];kernel_rfl
theorem juQ {p:Program} (h1:(sreFenced p.main&&((moduleNames p.main.body).isEmpty||lookedIntoSs (moduleNames p.main.body) p.main.body))=true) (h3:namesResolve p=true) (h4:p.boundNames.all (fun n=>!worldNames.contains n)=true)
  (h5:noRoadLSs { strict:=!(importedModules p.main.body).all cThrough.contains,foot:=none,bare:=(["vars","dir","locals"]:List Str).filter (readsOut p p.main.body)} p.main.body=true) (h6:namesMeet p p.main.body (fun _ n=>attrL n)=true):looksOpen p=true:=aT (aT (aT (aT h1 h3) h4) h5) h6
theorem u1:rwL.row.wellSaid=true:=by
 delta OpenRow.wellSaid OpenRow.partSaid
 rw [juQ (p:=rwL.row.prog) v1 v3 v4 v5 v6]
 kernel_rfl
theorem u2:(decide (rwL.foot≤(behindTheImports rwL.prog).length)&&(rwL.footing.all footLine&&noClassBlock rwL.prog rwL.footing))=true:=by kernel_rfl
theorem u3:(rwL.most.all (fun n=>decide (63≤n))&&rwL.bound.all (fun n=>decide (2^63≤n)))=true:=by kernel_rfl
theorem u4:noRoadLSs { strict:=true,foot:=some rwL.bound',writes:=rwL.writes,may:=rwL.may } rwL.footing=true:=by rw [PySem.W.Fast.te8326940854005059898];kernel_rfl
theorem u5:(defStands rwL.about rwL.above&&(rwL.namesIt&&(["type","isinstance","issubclass","getattr","hasattr"]:List Str).all (fun n=>rwL.about != [n])))=true:=by kernel_rfl
theorem u8:rwL.bound'.all (fun n=>!builtinNamed n||rwL.about==[n]||!rwL.reads n)=true:=by kernel_rfl
theorem u9:((!rwL.writes||(rwL.prog.main.body.flatMap importedNames).all fun n=>!rwL.reads n)&&(rwL.prog.main.body.flatMap importedNames).all (fun n=>!rwL.reads n||(drawsOf n rwL.prog.main.body).all fun mn=>mn.2 != ("attrgetter" : Str)&&mn.2 != ("methodcaller" : Str)))=true:=by kernel_rfl
theorem u10:namesMeet rwL.prog rwL.footing (fun sc n=>(!(["type","isinstance","issubclass","getattr","hasattr"]:List Str).contains n||sc.names.lookup n==some .globalImplicit) &&
  (rwL.may != some n||sc.kind == .module||sc.names.lookup n==some .globalImplicit))=true:=by rw [PySem.W.Fast.te17119622794617984870];kernel_rfl
theorem u11:(rwL.own.contains rwL.name&&(rwL.own.eraseDups.length==rwL.own.length&&rwL.own.all (fun n=>!builtinNamed n)))=true:=by kernel_rfl
theorem u12:namesMeet rwL.prog rwL.above (fun _ n=>!rwL.own.contains n)=true:=by rw [PySem.W.Fast.te17119622794617984870];kernel_rfl
theorem u13:namesMeet rwL.prog rwL.footing (fun sc n=>sc.kind == .module||sc.names.lookup n != some .globalExplicit)=true:=by rw [PySem.W.Fast.te17119622794617984870];kernel_rfl
theorem t7:rwL.wellSaid=true:=aT (aT (aT (aT (aT (aT (aT (aT (aT (aT (aT (aT (aT (aT (aT (aT (aT (aT u1 (j4 u2).1) (j4 (j4 u2).2).1) (j4 (j4 u2).2).2) (j4 u3).1) (j4 u3).2) u4) (j4 u5).1) (j4 (j4 u5).2).1) (j4 (j4 u5).2).2) u8) (j4 u9).1) (j4 u9).2) u10) (j4 u11).1) (j4 (j4 u11).2).1) (j4 (j4 u11).2).2) u12) u13
theorem law_holds:PySem.Challenge.rw_pq1053_01.Holds:=⟨t7,jwD jsM t1 t2 t3 rfl (by kernel_rfl) u1 t4 t5 t6 jvC⟩
end Mine
end
theorem PySem.Challenge.cw_pq1053_01_holds : PySem.Challenge.rw_pq1053_01.Holds :=
 Mine.law_holds
