import PyProof.Rows.All
import Wide.All
import OpenK.AllK
import Wide.FinOn
import Lean
import PySem.Challenge.RW_pb0362_01
set_option Elab.async false
set_option genInjectivity false
set_option genSizeOf false
set_option genSizeOfSpec false
set_option linter.unusedVariables false
set_option linter.unusedSimpArgs false
set_option linter.unusedSectionVars false
section
namespace Mine
open PySem
inductive V where
  | none
  | bool (b:Bool)
  | int (i:Int)
  | str (x:String)
  | tup (vs:List V)
  | ref (a:Nat)
  | rng (lo hi:Int)
  | zip (as:List Nat)
inductive AO where
  | list (vs:List V)
  | flist (vs:List V)
  | di (fz:Bool) (kvs:List (Int × V))
  | ds (fz:Bool) (kvs:List (String × V))
  | ns (kvs:List (String × V))
  | inst (dx:Nat)
theorem V.refI {a b:Nat} (h:V.ref a = .ref b):a=b:=by injection h
theorem AO.listI {a b:List V} (h:AO.list a = .list b):a=b:=by injection h
theorem AO.dsI {a b:Bool} {c d:List (String × V)} (h:AO.ds a c = .ds b d):a=b/\c=d:=by
  injection h with h1 h2
  exact ⟨h1,h2⟩
noncomputable abbrev AH:=Nat->Option AO
noncomputable def AH.set (H:AH) (a:Nat) (o:AO):AH:=fun b=>if b=a then some o else H b
inductive BOp where
  | add | sub | mul | fdiv | mod | pow | land | lor | lxor | shl | shr
inductive COp where
  | eq | ne | lt | le | gt | ge | is | isnot | isin | notin
inductive Tgt where
  | one (i:Nat)
  | many (is:List Nat)
inductive ME where
  | var (i:Nat)
  | int (i:Int)
  | str (x:String)
  | bool (b:Bool)
  | none
  | glob (x:String) (i:Int)
  | bin (op:BOp) (a b:ME)
  | neg (a:ME)
  | inv (a:ME)
  | not (a:ME)
  | and (es:List ME)
  | or (es:List ME)
  | cmp (a:ME) (ops:List COp) (es:List ME)
  | ite (t a b:ME)
  | call (f:String) (args:List ME)
  | new (args:List ME)
  | bi (f:String) (args:List ME)
  | meth (o:ME) (m:String) (args:List ME)
  | attr (o:ME) (x:String)
  | sub (o i:ME)
  | sliceTo (o hi:ME)
  | list (es:List ME)
  | tup (es:List ME)
  | dict (ks:List String) (vs:List ME)
  | comp (fr:List (Option Nat)) (tg:Tgt) (it:ME) (ifs:List ME) (elt:ME)
  | dcomp (fr:List (Option Nat)) (tg:Tgt) (it:ME) (k v:ME)
inductive MT where
  | var (i:Nat)
  | sub (o i:ME)
inductive MS where
  | assign (i:Nat) (e:ME)
  | setAttr (o:ME) (x:String) (e:ME)
  | setSub (o i e:ME)
  | unpack (ts:List MT) (e:ME)
  | aug (i:Nat) (e:ME)
  | augSub (o i e:ME)
  | expr (e:ME)
  | ret (e:ME)
  | ite (t:ME) (a b:List MS)
  | while_ (t:ME) (b:List MS)
  | for_ (t:Tgt) (it:ME) (b:List MS)
  | forZip (t:Tgt) (es:List ME) (b:List MS)
structure Fn where
  params:Nat
  nloc:Nat
  body:List MS
noncomputable abbrev Env:=List (Option V)
noncomputable def getV:Env->Nat->Option V
  | [],_=>Option.none
  | x::_,0=>x
  | _::r,i+1=>getV r i
noncomputable def setV:Env->Nat->V->Env
  | [],_,_=>[]
  | _::r,0,v=>some v::r
  | x::r,i+1,v=>x::setV r i v
inductive Rs where
  | val (v:V)
  | new (o:AO)
noncomputable def small (a:Int):Bool:=decide (a.natAbs<18446744073709551616)
noncomputable def listAt (H:AH) (a:Nat):Option (List V):=match H a with
  | some (.list xs)=>some xs
  | _=>Option.none
noncomputable def diAt (H:AH) (a:Nat):Option (List (Int × V)):=match H a with
  | some (.di _ kvs)=>some kvs
  | _=>Option.none
noncomputable def dsAt (H:AH) (a:Nat):Option (List (String × V)):=match H a with
  | some (.ds _ kvs)=>some kvs
  | _=>Option.none
noncomputable def fldAt (H:AH) (a:Nat):Option (Nat × List (String × V)):=match H a with
  | some (.inst dx)=>match H dx with
    | some (.ns kvs)=>some (dx,kvs)
    | _=>Option.none
  | _=>Option.none
noncomputable def binI:BOp->Int->Int->Option Rs
  | .add,a,b=>some (.val (.int (a+b)))
  | .sub,a,b=>some (.val (.int (a - b)))
  | .mul,a,b=>if small a && small b then some (.val (.int (a*b))) else Option.none
  | .fdiv,a,b=>if b ≠ 0/\small b=true then some (.val (.int (a.fdiv b))) else Option.none
  | .mod,a,b=>if b=0 then Option.none else some (.val (.int (a.fmod b)))
  | .pow,a,n=>if 0<=n/\n<=64/\a.natAbs<=256 then some (.val (.int (a ^ n.toNat))) else Option.none
  | .land,a,b=>some (.val (.int (Spec.bitAnd a b)))
  | .lor,a,b=>some (.val (.int (Spec.bitOr a b)))
  | .lxor,a,b=>some (.val (.int (Spec.bitXor a b)))
  | .shl,a,n=>if 0<=n/\n<=1000/\small a=true then some (.val (.int (a*2 ^ n.toNat))) else Option.none
  | .shr,a,n=>if 0<=n then some (.val (.int (a.fdiv (2 ^ n.toNat)))) else Option.none
noncomputable def catL (xs ys:List V):Option Rs:=if xs.length+ys.length<=1000 then some (.new (.list (xs ++ ys))) else Option.none
noncomputable def repL (xs:List V) (n:Int):Option Rs:=if xs.length*n.toNat<=1000/\n<=1000/\0<=n then some (.new (.list (List.replicate n.toNat xs).flatten)) else Option.none
noncomputable def binF (op:BOp) (x y:V) (H:AH):Option Rs:=match x with
  | .int a=>match y with
    | .int b=>binI op a b
    | _=>Option.none
  | .ref a=>match op with
    | .add=>match y with
      | .ref b=>(listAt H a).bind fun xs=>(listAt H b).bind fun ys=>catL xs ys
      | _=>Option.none
    | .mul=>match y with
      | .int n=>(listAt H a).bind fun xs=>repL xs n
      | _=>Option.none
    | _=>Option.none
  | _=>Option.none
noncomputable def truthF (x:V) (H:AH):Option Bool:=match x with
  | .none=>some false
  | .bool b=>some b
  | .int i=>some (i != 0)
  | .ref a=>(listAt H a).bind fun xs=>if xs.length<=100000 then some (!xs.isEmpty) else Option.none
  | _=>Option.none
noncomputable def eqFs (e:V->V->Option Bool):List V->List V->Option Bool
  | x::xs,y::ys=>match e x y with
    | some a=>(eqFs e xs ys).map (a && ·)
    | Option.none=>Option.none
  | _,_=>some true
noncomputable def eqF:Nat->AH->V->V->Option Bool
  | 0,_,_,_=>Option.none
  | n+1,H,x,y=>match x with
    | .tup xs=>match y with
      | .tup ys=>if xs.length=ys.length then eqFs (eqF n H) xs ys else Option.none
      | _=>Option.none
    | .ref a=>match y with
      | .ref b=>(listAt H a).bind fun xs=>(listAt H b).bind fun ys=>if xs.length=ys.length then eqFs (eqF n H) xs ys else some false
      | _=>Option.none
    | .int i=>match y with
      | .int j=>some (i == j)
      | .str _=>some false
      | _=>Option.none
    | .str i=>match y with
      | .str j=>some (i == j)
      | .int _=>some false
      | _=>Option.none
    | .bool b=>match y with
      | .bool c=>some (b == c)
      | _=>Option.none
    | .none=>match y with
      | .none=>some true
      | _=>Option.none
    | _=>Option.none
noncomputable def refs (x y:V):Option (Nat × Nat):=match x with
  | .ref a=>match y with
    | .ref b=>some (a,b)
    | _=>Option.none
  | _=>Option.none
noncomputable def eqD (n:Nat) (H:AH) (ks ls:List (String × V)):Option Bool:=if ks.map (·.1)=ls.map (·.1) then eqFs (eqF n H) (ks.map (·.2)) (ls.map (·.2)) else Option.none
noncomputable def eqE (n:Nat) (H:AH) (x y:V):Option Bool:=match (refs x y).bind fun p=>(dsAt H p.1).bind fun ks=>(dsAt H p.2).map fun ls=>(ks,ls) with
  | some q=>eqD n H q.1 q.2
  | Option.none=>eqF n H x y
noncomputable def neL (H:AH) (xs ys:List V):Option Bool:=if xs.length=ys.length then (eqFs (eqE 5 H) xs ys).map (!·) else some true
noncomputable def neF (x y:V) (H:AH):Option Bool:=match refs x y with
  | some p=>(listAt H p.1).bind fun xs=>(listAt H p.2).bind fun ys=>neL H xs ys
  | Option.none=>(eqF 6 H x y).map (!·)
noncomputable def eqP (x y:V):Option Bool:=match x with
  | .int i=>match y with
    | .int j=>some (i == j)
    | _=>Option.none
  | .str i=>match y with
    | .str j=>some (i == j)
    | _=>Option.none
  | _=>Option.none
noncomputable def anyF (x:V):List V->Option Bool
  | []=>some false
  | y::ys=>match eqP y x with
    | some b=>(anyF x ys).map (b || ·)
    | Option.none=>Option.none
noncomputable def dget {K:Type} [DecidableEq K]:List (K × V)->K->Option V
  | [],_=>Option.none
  | (k,v)::r,x=>if k=x then some v else dget r x
noncomputable def dset {K:Type} [DecidableEq K]:List (K × V)->K->V->List (K × V)
  | [],x,v=>[(x,v)]
  | (k,w)::r,x,v=>if k=x then (k,v)::r else (k,w)::dset r x v
noncomputable def inDi (kvs:List (Int × V)):V->Option Bool
  | .int i=>some (dget kvs i).isSome
  | _=>Option.none
noncomputable def inO (x:V):Option AO->Option Bool
  | some (.list ys)=>anyF x ys
  | some (.di _ kvs)=>inDi kvs x
  | _=>Option.none
noncomputable def inF (x y:V) (H:AH):Option Bool:=match y with
  | .tup ys=>anyF x ys
  | .ref a=>inO x (H a)
  | _=>Option.none
noncomputable def isNoneF:V->Bool
  | .none=>true
  | _=>false
noncomputable def ordI:COp->Int->Int->Bool
  | .lt,a,b=>decide (a<b)
  | .le,a,b=>decide (a<=b)
  | .gt,a,b=>decide (a > b)
  | _,a,b=>decide (a ≥ b)
noncomputable def ordF (op:COp) (x y:V):Option Bool:=match x with
  | .int a=>match y with
    | .int b=>some (ordI op a b)
    | _=>Option.none
  | _=>Option.none
noncomputable def cmpF (op:COp) (x y:V) (H:AH):Option Bool:=match op with
  | .eq=>eqF 6 H x y
  | .ne=>neF x y H
  | .lt=>ordF .lt x y
  | .le=>ordF .le x y
  | .gt=>ordF .gt x y
  | .ge=>ordF .ge x y
  | .is=>match y with
    | .none=>some (isNoneF x)
    | _=>Option.none
  | .isnot=>match y with
    | .none=>some (!isNoneF x)
    | _=>Option.none
  | .isin=>inF x y H
  | .notin=>(inF x y H).map (!·)
noncomputable def rngL (lo hi:Int):List V:=(List.range (hi - lo).toNat).map fun (k:Nat)=>V.int (lo+(k:Int))
noncomputable def zipL:List (List V)->List V
  | [xs,ys,zs]=>(xs.zip (ys.zip zs)).map fun p=>V.tup [p.1,p.2.1,p.2.2]
  | _=>[]
noncomputable def zipAt (H:AH):List Nat->Option (List V)
  | [a,b,c]=>(listAt H a).bind fun xs=>(listAt H b).bind fun ys=>(listAt H c).bind fun zs=>some (zipL [xs,ys,zs])
  | _=>Option.none
noncomputable def iterF (v:V) (H:AH):Option (List V):=match v with
  | .rng lo hi=>some (rngL lo hi)
  | .ref a=>listAt H a
  | .zip as=>zipAt H as
  | _=>Option.none
noncomputable def keysO:Option AO->Option (List V)
  | some (.di _ kvs)=>some (kvs.map fun p=>V.int p.1)
  | some (.ds _ kvs)=>some (kvs.map fun p=>V.str p.1)
  | _=>Option.none
noncomputable def keysF (v:V) (H:AH):Option (List V):=match v with
  | .ref a=>keysO (H a)
  | _=>Option.none
noncomputable def still (it:V) (all:List V) (H:AH):Prop:=match it with
  | .none=>True
  | _=>iterF it H=some all
noncomputable def intsOf:List V->Option (List Int)
  | []=>some []
  | .int i::r=>(intsOf r).map (i :: ·)
  | _=>Option.none
noncomputable def insI (x:Int):List Int->List Int
  | []=>[x]
  | y::r=>if x<=y then x::y::r else y::insI x r
noncomputable def sortI:List Int->List Int
  | []=>[]
  | x::r=>insI x (sortI r)
noncomputable def sortO:Option AO->Option (List Int)
  | some (.list xs)=>intsOf xs
  | some (.di _ kvs)=>some (kvs.map (·.1))
  | _=>Option.none
noncomputable def sortSrc (a:Nat) (H:AH):Option (List Int):=sortO (H a)
noncomputable def ref1:List V->Option Nat
  | [v]=>match v with
    | .ref a=>some a
    | _=>Option.none
  | _=>Option.none
noncomputable def int2:List V->Option (Int × Int)
  | [v,w]=>match v with
    | .int a=>match w with
      | .int b=>some (a,b)
      | _=>Option.none
    | _=>Option.none
  | _=>Option.none
noncomputable def biLen (vs:List V) (H:AH):Option Rs:=(ref1 vs).bind fun a=>(listAt H a).bind fun xs=>if xs.length<=100000 then some (.val (.int xs.length)) else Option.none
noncomputable def biRange:List V->Option Rs
  | [v]=>match v with
    | .int n=>if n<=1000 /\ -1000<=n then some (.val (.rng 0 n)) else Option.none
    | _=>Option.none
  | vs=>(int2 vs).bind fun p=>if p.1<=1000 /\ -1000<=p.1/\p.2<=1000 /\ -1000<=p.2 then some (.val (.rng p.1 p.2)) else Option.none
noncomputable def biSorted (vs:List V) (H:AH):Option Rs:=(ref1 vs).bind fun a=>(sortSrc a H).bind fun is=>if is.length<64 then some (.new (.list ((sortI is).map V.int))) else Option.none
noncomputable def biList (vs:List V) (H:AH):Option Rs:=match vs with
  | [v]=>match v with
    | .ref a=>(listAt H a).bind fun xs=>if xs.length<=1000 then some (.new (.list xs)) else Option.none
    | .rng lo hi=>some (.new (.list (rngL lo hi)))
    | _=>Option.none
  | _=>Option.none
noncomputable def dictO:Option AO->Option Rs
  | some (.di _ kvs)=>if kvs.length<=10000 then some (.new (.di false kvs)) else Option.none
  | some (.ds _ kvs)=>if kvs.length<=10000 then some (.new (.ds false kvs)) else Option.none
  | _=>Option.none
noncomputable def biDict (vs:List V) (H:AH):Option Rs:=(ref1 vs).bind fun a=>dictO (H a)
noncomputable def biSum (vs:List V) (H:AH):Option Rs:=(ref1 vs).bind fun a=>(listAt H a).bind fun xs=>(intsOf xs).bind fun is=>
  if is.all (fun i=>decide (i.natAbs<1099511627776))=true/\is.length<=1000 then some (.val (.int is.sum)) else Option.none
noncomputable def biF (f:String) (vs:List V) (H:AH):Option Rs :=
  if f = "len" then biLen vs H
  else if f = "range" then biRange vs
  else if f = "sorted" then biSorted vs H
  else if f = "list" then biList vs H
  else if f = "dict" then biDict vs H
  else if f = "max" then (int2 vs).map fun p=>.val (.int (if p.2 > p.1 then p.2 else p.1))
  else if f = "min" then (int2 vs).map fun p=>.val (.int (if p.2<p.1 then p.2 else p.1))
  else if f = "sum" then biSum vs H
  else Option.none
noncomputable def indexF (x:V):List V->Option Nat
  | []=>Option.none
  | y::ys=>match eqP y x with
    | some true=>some 0
    | some false=>(indexF x ys).map (· + 1)
    | Option.none=>Option.none
noncomputable def mAppend (H:AH) (a:Nat) (xs:List V):List V->Option (V × AH)
  | [v]=>if xs.length<10000 then some (.none,H.set a (.list (xs ++ [v]))) else Option.none
  | _=>Option.none
noncomputable def mExtend (H:AH) (a:Nat) (xs vs:List V):Option (V × AH):=(ref1 vs).bind fun b=>(listAt H b).bind fun ys=>if xs.length+ys.length<10000/\a ≠ b then some (.none,H.set a (.list (xs ++ ys))) else Option.none
noncomputable def mPop (H:AH) (a:Nat) (xs:List V):List V->Option (V × AH)
  | []=>xs.getLast?.bind fun v=>if xs.length<10000 then some (v,H.set a (.list xs.dropLast)) else Option.none
  | _=>Option.none
noncomputable def mReverse (H:AH) (a:Nat) (xs:List V):List V->Option (V × AH)
  | []=>if xs.length<10000 then some (.none,H.set a (.list xs.reverse)) else Option.none
  | _=>Option.none
noncomputable def mIndex (H:AH) (xs:List V):List V->Option (V × AH)
  | [x]=>if xs.length<1000/\(anyF x xs).isSome=true then (indexF x xs).map fun (n:Nat)=>(V.int (n:Int),H) else Option.none
  | _=>Option.none
noncomputable def mGet (H:AH) (kvs:List (Int × V)):List V->Option (V × AH)
  | [v,d]=>match v with
    | .int k=>some ((dget kvs k).getD d,H)
    | _=>Option.none
  | _=>Option.none
noncomputable def mEnds (H:AH) (x:String):List V->Option (V × AH)
  | [v]=>match v with
    | .str y=>some (.bool (y.toList.isSuffixOf x.toList),H)
    | _=>Option.none
  | _=>Option.none
noncomputable def methO (H:AH) (a:Nat) (m:String) (vs:List V):Option AO->Option (V × AH)
  | some (.list xs)=>
      if m = "append" then mAppend H a xs vs
      else if m = "extend" then mExtend H a xs vs
      else if m = "pop" then mPop H a xs vs
      else if m = "reverse" then mReverse H a xs vs
      else if m = "index" then mIndex H xs vs
      else Option.none
  | some (.di _ kvs)=>if m = "get" then mGet H kvs vs else Option.none
  | _=>Option.none
noncomputable def methF (o:V) (m:String) (vs:List V) (H:AH):Option (V × AH):=match o with
  | .str x=>if m = "endswith" then mEnds H x vs else Option.none
  | .ref a=>methO H a m vs (H a)
  | _=>Option.none
noncomputable def kindO (m:String):Option AO->Bool
  | some (.list _)=>m = "append" \/ m = "extend" \/ m = "pop" \/ m = "reverse" \/ m = "index"
  | some (.di _ _)=>m = "get"
  | _=>false
noncomputable def kindM (o:V) (m:String) (H:AH):Bool:=match o with
  | .str _=>m = "endswith"
  | .ref a=>kindO m (H a)
  | _=>false
noncomputable def idxF (xs:List V) (i:Int):Option V :=
  if 0<=i/\i<100000 then xs[i.toNat]? else if -100000<i/\i<0/\0<=i+xs.length then xs[(i+xs.length).toNat]? else Option.none
noncomputable def subO (k:Int):Option AO->Option V
  | some (.list vs)=>idxF vs k
  | some (.di _ kvs)=>dget kvs k
  | _=>Option.none
noncomputable def subF (o i:V) (H:AH):Option V:=match o with
  | .tup vs=>match i with
    | .int k=>idxF vs k
    | _=>Option.none
  | .str x=>match i with
    | .int k=>idxF (x.toList.map fun c=>V.str (String.ofList [c])) k
    | _=>Option.none
  | .ref a=>match i with
    | .int k=>subO k (H a)
    | .str x=>(dsAt H a).bind fun kvs=>dget kvs x
    | _=>Option.none
  | _=>Option.none
noncomputable def takeL (k:Int) (xs:List V):Option Rs:=if 0<=k/\k<=1000/\xs.length<=100000 then some (.new (.list (xs.take k.toNat))) else Option.none
noncomputable def sliceO (k:Int):Option AO->Option Rs
  | some (.list xs)=>takeL k xs
  | some (.flist xs)=>takeL k xs
  | _=>Option.none
noncomputable def sliceF (o hi:V) (H:AH):Option Rs:=match hi with
  | .int k=>match o with
    | .ref a=>sliceO k (H a)
    | .str x=>if k = -1/\x.toList.length<=1000 then some (.val (.str (String.ofList x.toList.dropLast))) else Option.none
    | _=>Option.none
  | _=>Option.none
noncomputable def attrNames:List String:=["name", "key", "imports", "rows", "data_size", "words", "data_fixups", "fixups", "entries", "pointers", "maps", "commands", "body"]
noncomputable def attrF (o:V) (x:String) (H:AH):Option V:=match o with
  | .ref a=>(fldAt H a).bind fun p=>dget p.2 x
  | _=>Option.none
noncomputable def setAttrF (o:V) (x:String) (v:V) (H:AH):Option AH:=match o with
  | .ref a=>(fldAt H a).bind fun p=>some (H.set p.1 (.ns (dset p.2 x v)))
  | _=>Option.none
noncomputable def storeI (H:AH) (a:Nat) (k:Int) (v:V):Option AO->Option AH
  | some (.list vs)=>if 0<=k/\k<vs.length/\k<100000 then some (H.set a (.list (vs.set k.toNat v))) else Option.none
  | some (.di fz kvs)=>if fz=false/\kvs.length<=10000 then some (H.set a (.di false (dset kvs k v))) else Option.none
  | _=>Option.none
noncomputable def storeS (H:AH) (a:Nat) (x:String) (v:V):Option AO->Option AH
  | some (.ds fz kvs)=>if fz=false/\kvs.length<=10000 then some (H.set a (.ds false (dset kvs x v))) else Option.none
  | some (.di fz kvs)=>if fz=false/\kvs.length=0 then some (H.set a (.ds false [(x,v)])) else Option.none
  | _=>Option.none
noncomputable def storeF (o i v:V) (H:AH):Option AH:=match o with
  | .ref a=>match i with
    | .int k=>storeI H a k v (H a)
    | .str x=>storeS H a x v (H a)
    | _=>Option.none
  | _=>Option.none
noncomputable def unpackF (v:V) (n:Nat) (H:AH):Option (List V):=match v with
  | .tup vs=>if vs.length=n then some vs else Option.none
  | .ref a=>(listAt H a).bind fun vs=>if vs.length=n then some vs else Option.none
  | _=>Option.none
noncomputable def bindMany:List Nat->List V->Env->Option Env
  | [],vs,ρ=>if vs.isEmpty then some ρ else Option.none
  | i::is,vs,ρ=>match vs with
    | []=>Option.none
    | v::vs=>bindMany is vs (setV ρ i v)
noncomputable def bindT (t:Tgt) (v:V) (ρ:Env):Option Env:=match t with
  | .one i=>some (setV ρ i v)
  | .many is=>match v with
    | .tup vs=>bindMany is vs ρ
    | _=>Option.none
noncomputable def freezeO (H:AH) (a:Nat):Option AO->AH
  | some (.di fz kvs)=>bif fz then H else H.set a (.di true kvs)
  | some (.ds fz kvs)=>bif fz then H else H.set a (.ds true kvs)
  | _=>H
noncomputable def freeze (v:V) (H:AH):AH:=match v with
  | .ref a=>freezeO H a (H a)
  | _=>H
noncomputable def thawO (H:AH) (a:Nat):Option AO->AH
  | some (.di fz kvs)=>bif fz then H else H.set a (.di false kvs)
  | some (.ds fz kvs)=>bif fz then H else H.set a (.ds false kvs)
  | _=>H
noncomputable def thaw (v:V) (H₀ H:AH):AH:=match v with
  | .ref a=>thawO H a (H₀ a)
  | _=>H
noncomputable abbrev Cl:=String->List V->AH->(V->AH->Prop)->Prop
noncomputable def retR (r:Rs) (H:AH) (Q:V->AH->Prop):Prop:=match r with
  | .val v=>Q v H
  | .new o=>∀ a,H a=Option.none->Q (.ref a) (H.set a o)
noncomputable def initC (fr:List (Option Nat)) (ρ:Env):Env:=fr.map fun
  | some i=>getV ρ i
  | Option.none=>Option.none
noncomputable def compT (tg:Tgt) (ifs:Env->AH->(Bool->AH->Prop)->Prop) (elt:Env->AH->(V->AH->Prop)->Prop) (it:V) (all:List V) :
    List V->Env->AH->List V->(List V->AH->Prop)->Prop
  | [],_,H,acc,Q=>still it all H/\Q acc H
  | x::xs,ρ,H,acc,Q=>still it all H/\match bindT tg x ρ with
    | Option.none=>False
    | some ρ'=>ifs ρ' H fun b H₁=>match b with
      | true=>elt ρ' H₁ fun v H₂=>acc.length<10000/\compT tg ifs elt it all xs ρ' H₂ (acc ++ [v]) Q
      | false=>compT tg ifs elt it all xs ρ' H₁ acc Q
noncomputable def dcompT (tg:Tgt) (k v:Env->AH->(V->AH->Prop)->Prop) (it:V) (all:List V) :
    List V->Env->AH->List (Int × V)->(List (Int × V)->AH->Prop)->Prop
  | [],_,H,acc,Q=>still it all H/\Q acc H
  | x::xs,ρ,H,acc,Q=>still it all H/\match bindT tg x ρ with
    | Option.none=>False
    | some ρ'=>k ρ' H fun kv H₁=>v ρ' H₁ fun vv H₂=>match kv with
      | .int i=>acc.length<10000/\dcompT tg k v it all xs ρ' H₂ (dset acc i vv) Q
      | _=>False
noncomputable def zipF (xs:List V) (H:AH):Option (V × List V):=match xs with
  | [x,y,z]=>(refs x y).bind fun p=>(ref1 [z]).bind fun c=>(zipAt H [p.1,p.2,c]).map fun vs=>(.zip [p.1,p.2,c],vs)
  | _=>none
mutual
noncomputable def wpE (C:Cl):ME->Env->AH->(V->AH->Prop)->Prop
  | .var i,ρ,H,Q=>match getV ρ i with
    | some v=>Q v H
    | Option.none=>False
  | .int i,_,H,Q=>Q (.int i) H
  | .str x,_,H,Q=>Q (.str x) H
  | .bool b,_,H,Q=>Q (.bool b) H
  | .none,_,H,Q=>Q .none H
  | .glob _ i,_,H,Q=>Q (.int i) H
  | .bin op a b,ρ,H,Q=>wpE C a ρ H fun x H₁=>wpE C b ρ H₁ fun y H₂=>match binF op x y H₂ with
    | some r=>retR r H₂ Q
    | Option.none=>False
  | .neg a,ρ,H,Q=>wpE C a ρ H fun x H₁=>match x with
    | .int i=>Q (.int (-i)) H₁
    | _=>False
  | .inv a,ρ,H,Q=>wpE C a ρ H fun x H₁=>match x with
    | .int i=>Q (.int (Spec.bitNot i)) H₁
    | _=>False
  | .not a,ρ,H,Q=>wpE C a ρ H fun x H₁=>match truthF x H₁ with
    | some b=>Q (.bool (!b)) H₁
    | Option.none=>False
  | .and es,ρ,H,Q=>wpAnd C es ρ H Q
  | .or es,ρ,H,Q=>wpOr C es ρ H Q
  | .cmp a ops es,ρ,H,Q=>wpE C a ρ H fun x H₁=>wpC C x ops es ρ H₁ fun b H₂=>Q (.bool b) H₂
  | .ite t a b,ρ,H,Q=>wpT C t ρ H fun c H₁=>match c with
    | true=>wpE C a ρ H₁ Q
    | false=>wpE C b ρ H₁ Q
  | .call f args,ρ,H,Q=>wpEs C args ρ H fun vs H₁=>C f vs H₁ Q
  | .new args,ρ,H,Q=>wpEs C args ρ H fun vs H₁=>∀ dx a,H₁ dx=Option.none->H₁ a=Option.none->a ≠ dx ->
      C "__init__" (.ref a::vs) ((H₁.set dx (.ns [])).set a (.inst dx)) fun v H₂=>match v with
        | .none=>Q (.ref a) H₂
        | _=>False
  | .bi f args,ρ,H,Q=>wpEs C args ρ H fun vs H₁=>match biF f vs H₁ with
    | some r=>retR r H₁ Q
    | Option.none=>False
  | .meth o m args,ρ,H,Q=>wpE C o ρ H fun x H₁=>match kindM x m H₁ with
    | true=>wpEs C args ρ H₁ fun vs H₂=>match methF x m vs H₂ with
      | some p=>Q p.1 p.2
      | Option.none=>False
    | false=>False
  | .attr o x,ρ,H,Q=>wpE C o ρ H fun v H₁=>match attrF v x H₁ with
    | some r=>Q r H₁
    | Option.none=>False
  | .sub o i,ρ,H,Q=>wpE C o ρ H fun x H₁=>wpE C i ρ H₁ fun y H₂=>match subF x y H₂ with
    | some r=>Q r H₂
    | Option.none=>False
  | .sliceTo o hi,ρ,H,Q=>wpE C o ρ H fun x H₁=>wpE C hi ρ H₁ fun y H₂=>match sliceF x y H₂ with
    | some r=>retR r H₂ Q
    | Option.none=>False
  | .list es,ρ,H,Q=>wpEs C es ρ H fun vs H₁=>∀ a,H₁ a=Option.none->Q (.ref a) (H₁.set a (.list vs))
  | .tup es,ρ,H,Q=>wpEs C es ρ H fun vs H₁=>Q (.tup vs) H₁
  | .dict ks es,ρ,H,Q=>wpEs C es ρ H fun vs H₁=>∀ a,H₁ a=Option.none ->
      Q (.ref a) (H₁.set a (match ks with | []=>.di false [] | _=>.ds false (ks.zip vs)))
  | .comp fr tg it ifs elt,ρ,H,Q=>wpE C it ρ H fun x H₁=>match iterF x H₁ with
    | some vs=>compT tg (fun ρ' H' K=>wpIfs C ifs ρ' H' K) (fun ρ' H' K=>wpE C elt ρ' H' K) x vs vs (initC fr ρ) H₁ [] fun acc H₂=>∀ a,H₂ a=Option.none->Q (.ref a) (H₂.set a (.list acc))
    | Option.none=>False
  | .dcomp fr tg it k v,ρ,H,Q=>wpE C it ρ H fun x H₁=>match iterF x H₁ with
    | some vs=>dcompT tg (fun ρ' H' K=>wpE C k ρ' H' K) (fun ρ' H' K=>wpE C v ρ' H' K) x vs vs (initC fr ρ) H₁ [] fun acc H₂=>∀ a,H₂ a=Option.none->Q (.ref a) (H₂.set a (.di false acc))
    | Option.none=>False
noncomputable def wpEs (C:Cl):List ME->Env->AH->(List V->AH->Prop)->Prop
  | [],_,H,Q=>Q [] H
  | e::es,ρ,H,Q=>wpE C e ρ H fun v H₁=>wpEs C es ρ H₁ fun vs H₂=>Q (v::vs) H₂
noncomputable def wpAnd (C:Cl):List ME->Env->AH->(V->AH->Prop)->Prop
  | [],_,_,_=>False
  | e::es,ρ,H,Q=>match es with
    | []=>wpE C e ρ H Q
    | _=>wpE C e ρ H fun v H₁=>match truthF v H₁ with
      | some true=>wpAnd C es ρ H₁ Q
      | some false=>Q v H₁
      | Option.none=>False
noncomputable def wpOr (C:Cl):List ME->Env->AH->(V->AH->Prop)->Prop
  | [],_,_,_=>False
  | e::es,ρ,H,Q=>match es with
    | []=>wpE C e ρ H Q
    | _=>wpE C e ρ H fun v H₁=>match truthF v H₁ with
      | some true=>Q v H₁
      | some false=>wpOr C es ρ H₁ Q
      | Option.none=>False
noncomputable def wpC (C:Cl):V->List COp->List ME->Env->AH->(Bool->AH->Prop)->Prop
  | x,[op],[e],ρ,H,Q=>wpE C e ρ H fun y H₁=>match cmpF op x y H₁ with
    | some b=>Q b H₁
    | Option.none=>False
  | x,op::op₂ :: ops,e::e₂ :: es,ρ,H,Q=>wpE C e ρ H fun y H₁=>match cmpF op x y H₁ with
    | some true=>wpC C y (op₂ :: ops) (e₂ :: es) ρ H₁ Q
    | some false=>Q false H₁
    | Option.none=>False
  | _,_,_,_,_,_=>False
noncomputable def wpT (C:Cl):ME->Env->AH->(Bool->AH->Prop)->Prop
  | .not a,ρ,H,Q=>wpT C a ρ H fun b H₁=>Q (!b) H₁
  | .and es,ρ,H,Q=>wpAndT C es ρ H Q
  | .or es,ρ,H,Q=>wpOrT C es ρ H Q
  | .cmp a ops es,ρ,H,Q=>wpE C a ρ H fun x H₁=>wpC C x ops es ρ H₁ Q
  | .var i,ρ,H,Q=>match getV ρ i with
    | some v=>match truthF v H with
      | some b=>Q b H
      | Option.none=>False
    | Option.none=>False
  | .call f args,ρ,H,Q=>wpEs C args ρ H fun vs H₁=>C f vs H₁ fun v H₂=>match truthF v H₂ with
      | some b=>Q b H₂
      | Option.none=>False
  | .sub o i,ρ,H,Q=>wpE C o ρ H fun x H₁=>wpE C i ρ H₁ fun y H₂=>match subF x y H₂ with
    | some r=>match truthF r H₂ with
      | some b=>Q b H₂
      | Option.none=>False
    | Option.none=>False
  | _,_,_,_=>False
noncomputable def wpAndT (C:Cl):List ME->Env->AH->(Bool->AH->Prop)->Prop
  | [],_,H,Q=>Q true H
  | e::es,ρ,H,Q=>wpT C e ρ H fun b H₁=>match b with
    | true=>wpAndT C es ρ H₁ Q
    | false=>Q false H₁
noncomputable def wpOrT (C:Cl):List ME->Env->AH->(Bool->AH->Prop)->Prop
  | [],_,H,Q=>Q false H
  | e::es,ρ,H,Q=>wpT C e ρ H fun b H₁=>match b with
    | true=>Q true H₁
    | false=>wpOrT C es ρ H₁ Q
noncomputable def wpIfs (C:Cl):List ME->Env->AH->(Bool->AH->Prop)->Prop
  | [],_,H,Q=>Q true H
  | e::es,ρ,H,Q=>wpT C e ρ H fun b H₁=>match b with
    | true=>wpIfs C es ρ H₁ Q
    | false=>Q false H₁
end
inductive Out where
  | next
  | ret (v:V)
noncomputable abbrev PO:=Out->Env->AH->Prop
noncomputable abbrev Tr:=Env->AH->PO->Prop
noncomputable def wpTs (C:Cl):List MT->List V->Env->AH->(Env->AH->Prop)->Prop
  | [],[],ρ,H,Q=>Q ρ H
  | .var i::ts,v::vs,ρ,H,Q=>wpTs C ts vs (setV ρ i v) H Q
  | .sub o i::ts,v::vs,ρ,H,Q=>wpE C o ρ H fun x H₁=>wpE C i ρ H₁ fun y H₂=>match storeF x y v H₂ with
    | some H₃=>wpTs C ts vs ρ H₃ Q
    | Option.none=>False
  | _,_,_,_,_=>False
noncomputable def forT (tg:Tgt) (body:Tr) (it:V) (all:List V):List V->Env->AH->PO->Prop
  | [],ρ,H,Q=>still it all H/\Q .next ρ H
  | x::xs,ρ,H,Q=>still it all H/\match bindT tg x ρ with
    | Option.none=>False
    | some ρ'=>body ρ' H fun o ρ₁ H₁=>match o with
      | .next=>forT tg body it all xs ρ₁ H₁ Q
      | .ret v=>Q (.ret v) ρ₁ H₁
noncomputable def whileT (t:Env->AH->(Bool->AH->Prop)->Prop) (body:Tr):Nat->Env->AH->PO->Prop
  | 0,_,_,_=>False
  | n+1,ρ,H,Q=>t ρ H fun b H₁=>match b with
    | false=>Q .next ρ H₁
    | true=>body ρ H₁ fun o ρ₁ H₂=>match o with
      | .next=>whileT t body n ρ₁ H₂ Q
      | .ret v=>Q (.ret v) ρ₁ H₂
mutual
noncomputable def wpS (C:Cl):MS->Env->AH->PO->Prop
  | .assign i e,ρ,H,Q=>wpE C e ρ H fun v H₁=>Q .next (setV ρ i v) H₁
  | .setAttr o x e,ρ,H,Q=>wpE C e ρ H fun v H₁=>wpE C o ρ H₁ fun ov H₂=>match setAttrF ov x v H₂ with
    | some H₃=>Q .next ρ H₃
    | Option.none=>False
  | .setSub o i e,ρ,H,Q=>wpE C e ρ H fun v H₁=>wpE C o ρ H₁ fun ov H₂=>wpE C i ρ H₂ fun iv H₃=>match storeF ov iv v H₃ with
    | some H₄=>Q .next ρ H₄
    | Option.none=>False
  | .unpack ts e,ρ,H,Q=>wpE C e ρ H fun v H₁=>match unpackF v ts.length H₁ with
    | some vs=>wpTs C ts vs ρ H₁ fun ρ₁ H₂=>Q .next ρ₁ H₂
    | Option.none=>False
  | .aug i e,ρ,H,Q=>match getV ρ i with
    | some (.int a)=>wpE C e ρ H fun v H₁=>match v with
      | .int b=>Q .next (setV ρ i (.int (a+b))) H₁
      | _=>False
    | _=>False
  | .augSub o i e,ρ,H,Q=>wpE C o ρ H fun ov H₁=>wpE C i ρ H₁ fun iv H₂=>match subF ov iv H₂ with
    | some (.int a)=>wpE C e ρ H₂ fun v H₃=>match v with
      | .int b=>match storeF ov iv (.int (a+b)) H₃ with
        | some H₄=>Q .next ρ H₄
        | Option.none=>False
      | _=>False
    | _=>False
  | .expr e,ρ,H,Q=>wpE C e ρ H fun uu H₁=>Q .next ρ H₁
  | .ret e,ρ,H,Q=>wpE C e ρ H fun v H₁=>Q (.ret v) ρ H₁
  | .ite t a b,ρ,H,Q=>wpT C t ρ H fun c H₁=>match c with
    | true=>wpSs C a ρ H₁ Q
    | false=>wpSs C b ρ H₁ Q
  | .while_ t b,ρ,H,Q=>∃ n,whileT (fun ρ' H' K=>wpT C t ρ' H' K) (fun ρ' H' K=>wpSs C b ρ' H' K) n ρ H Q
  | .for_ tg it b,ρ,H,Q=>wpE C it ρ H fun x H₁=>match keysF x H₁ with
    | some vs=>forT tg (fun ρ' H' K=>wpSs C b ρ' H' K) .none vs vs ρ (freeze x H₁) fun o ρ₁ H₂=>Q o ρ₁ (thaw x H₁ H₂)
    | Option.none=>match iterF x H₁ with
      | some vs=>forT tg (fun ρ' H' K=>wpSs C b ρ' H' K) x vs vs ρ H₁ Q
      | Option.none=>False
  | .forZip tg es b,ρ,H,Q=>wpEs C es ρ H fun xs H₁=>match zipF xs H₁ with
    | some p=>forT tg (fun ρ' H' K=>wpSs C b ρ' H' K) p.1 p.2 p.2 ρ H₁ Q
    | Option.none=>False
noncomputable def wpSs (C:Cl):List MS->Env->AH->PO->Prop
  | [],ρ,H,Q=>Q .next ρ H
  | s::ss,ρ,H,Q=>wpS C s ρ H fun o ρ₁ H₁=>match o with
    | .next=>wpSs C ss ρ₁ H₁ Q
    | .ret v=>Q (.ret v) ρ₁ H₁
end
noncomputable def initEnv (fn:Fn) (vs:List V):Env:=vs.map some ++ List.replicate (fn.nloc - fn.params) Option.none
noncomputable def Out.val:Out->V
  | .next=>.none
  | .ret v=>v
noncomputable def callN (fns:String->Option Fn):Nat->Cl
  | 0,_,_,_,_=>False
  | n+1,f,vs,H,Q=>match fns f with
    | Option.none=>False
    | some fn=>vs.length=fn.params/\wpSs (callN fns n) fn.body (initEnv fn vs) H fun o uu H'=>Q o.val H'
end Mine
end
section
namespace Mine
open PySem
noncomputable def f_is_branch:Fn where
  params:=1
  nloc:=1
  body :=
  [ .ret (.or [.cmp (.sub (.var 0) (.int 0)) [.eq] [.str "B"],.cmp (.sub (.var 0) (.int 0)) [.eq] [.str "BL"]])]
noncomputable def f_target_of:Fn where
  params:=2
  nloc:=2
  body :=
  [ .ret (.bin .add (.bin .add (.var 1) (.int 1)) (.sub (.var 0) (.int 2)))]
noncomputable def f_falls_through:Fn where
  params:=1
  nloc:=2
  body :=
  [ .assign 1 (.sub (.var 0) (.int 0)),.ite (.or [.cmp (.var 1) [.eq] [.str "B"],.cmp (.var 1) [.eq] [.str "BR"]]) [ .ret (.cmp (.sub (.var 0) (.int 1)) [.ne] [.str "AL"])] [],.ite (.and [.cmp (.var 1) [.eq] [.str "TRAP"],.cmp (.sub (.var 0) (.int 1)) [.eq] [.str "AL"]]) [ .ret (.and [.cmp (.sub (.var 0) (.int 2)) [.eq] [.int 0],.cmp (.sub (.var 0) (.int 3)) [.ne] [.glob "END_OF_COMMAND" 9]])] [],.ret (.bool true)]
noncomputable def f_can_jump:Fn where
  params:=1
  nloc:=1
  body :=
  [ .ret (.cmp (.sub (.var 0) (.int 1)) [.ne] [.str "NV"])]
noncomputable def f_successors:Fn where
  params:=2
  nloc:=5
  body :=
  [ .assign 2 (.sub (.var 0) (.var 1)),.assign 3 (.list []),.ite (.and [.call "falls_through" [.var 2],.cmp (.bin .add (.var 1) (.int 1)) [.lt] [.bi "len" [.var 0]]]) [ .expr (.meth (.var 3) "append" [.bin .add (.var 1) (.int 1)])] [],.ite (.and [.cmp (.sub (.var 2) (.int 0)) [.eq] [.str "B"],.call "can_jump" [.var 2]]) [ .assign 4 (.call "target_of" [.var 2,.var 1]),.ite (.and [.cmp (.int 0) [.le] [.var 4],.cmp (.var 4) [.lt] [.bi "len" [.var 0]],.cmp (.var 4) [.notin] [.var 3]]) [ .expr (.meth (.var 3) "append" [.var 4])] []] [],.ret (.bi "sorted" [.var 3])]
noncomputable def f_called_rows:Fn where
  params:=2
  nloc:=4
  body :=
  [ .assign 2 (.sub (.var 0) (.var 1)),.ite (.and [.cmp (.sub (.var 2) (.int 0)) [.eq] [.str "BL"],.call "can_jump" [.var 2]]) [ .assign 3 (.call "target_of" [.var 2,.var 1]),.ite (.and [.cmp (.int 0) [.le] [.var 3],.cmp (.var 3) [.lt] [.bi "len" [.var 0]]]) [ .ret (.list [.var 3])] []] [],.ret (.list [])]
noncomputable def f_targets_l0:List MS :=
  [ .setSub (.var 2) (.var 3) (.bool true)]
noncomputable def f_targets_l1:List MS :=
  [ .assign 5 (.sub (.var 0) (.var 4)),.ite (.and [.call "is_branch" [.var 5],.call "can_jump" [.var 5]]) [ .assign 6 (.call "target_of" [.var 5,.var 4]),.ite (.and [.cmp (.int 0) [.le] [.var 6],.cmp (.var 6) [.lt] [.bi "len" [.var 0]]]) [ .setSub (.var 2) (.var 6) (.bool true)] []] []]
noncomputable def f_targets:Fn where
  params:=2
  nloc:=7
  body :=
  [ .assign 2 (.dict [] []),.for_ (.one 3) (.var 1) f_targets_l0,.for_ (.one 4) (.bi "range" [.bi "len" [.var 0]]) f_targets_l1,.ret (.bi "sorted" [.var 2])]
noncomputable def f_reach_rows_l0:List MS :=
  [ .assign 4 (.meth (.var 3) "pop" []),.ite (.cmp (.var 4) [.notin] [.var 2]) [ .setSub (.var 2) (.var 4) (.bool true),.expr (.meth (.var 3) "extend" [.call "successors" [.var 0,.var 4]]),.expr (.meth (.var 3) "extend" [.call "called_rows" [.var 0,.var 4]])] []]
noncomputable def f_reach_rows:Fn where
  params:=2
  nloc:=5
  body :=
  [ .assign 2 (.dict [] []),.assign 3 (.comp [none,none,none,some 0] (.one 1) (.var 1) [.and [.cmp (.int 0) [.le] [.var 1],.cmp (.var 1) [.lt] [.bi "len" [.var 3]]]] (.var 1)),.while_ (.cmp (.bi "len" [.var 3]) [.gt] [.int 0]) f_reach_rows_l0,.ret (.bi "sorted" [.var 2])]
noncomputable def f_bit:Fn where
  params:=1
  nloc:=1
  body :=
  [ .ret (.bin .shl (.int 1) (.var 0))]
noncomputable def f_is_register_form:Fn where
  params:=1
  nloc:=1
  body :=
  [ .ret (.cmp (.var 0) [.isin] [.tup [.str "LSL",.str "ASR",.str "ROR",.str "AND",.str "ANN",.str "IOR",.str "XOR",.str "ADD",.str "SUB",.str "MUL",.str "DIV"]])]
noncomputable def f_is_immediate_form:Fn where
  params:=1
  nloc:=1
  body :=
  [ .ret (.and [.meth (.var 0) "endswith" [.str "I"],.call "is_register_form" [.sliceTo (.var 0) (.neg (.int 1))]])]
noncomputable def f_is_conditional:Fn where
  params:=1
  nloc:=1
  body :=
  [ .ret (.and [.cmp (.var 0) [.ne] [.str "AL"],.cmp (.var 0) [.ne] [.str "NV"]])]
noncomputable def f_sets_flags:Fn where
  params:=1
  nloc:=2
  body :=
  [ .assign 1 (.sub (.var 0) (.int 0)),.ite (.cmp (.var 1) [.isin] [.tup [.str "MOV",.str "MOVI",.str "MOVH",.str "GETH"]]) [ .ret (.bool true)] [],.ret (.or [.call "is_register_form" [.var 1],.call "is_immediate_form" [.var 1]])]
noncomputable def f_memory_reads:Fn where
  params:=1
  nloc:=2
  body :=
  [ .assign 1 (.call "bit" [.sub (.var 0) (.int 2)]),.ite (.or [.cmp (.sub (.var 0) (.int 0)) [.eq] [.str "STR"],.cmp (.sub (.var 0) (.int 0)) [.eq] [.str "STB"]]) [ .assign 1 (.bin .lor (.var 1) (.call "bit" [.sub (.var 0) (.int 1)]))] [],.ret (.var 1)]
noncomputable def f_branch_reads:Fn where
  params:=1
  nloc:=3
  body :=
  [ .assign 1 (.int 0),.ite (.call "is_conditional" [.sub (.var 0) (.int 1)]) [ .assign 1 (.call "bit" [.glob "FLAGS" 17])] [],.assign 2 (.sub (.var 0) (.int 0)),.ite (.or [.cmp (.var 2) [.eq] [.str "BL"],.cmp (.var 2) [.eq] [.str "BLR"],.and [.cmp (.var 2) [.eq] [.str "TRAP"],.cmp (.sub (.var 0) (.int 2)) [.eq] [.int 0]]]) [ .assign 1 (.bin .lor (.var 1) (.glob "HELD" 26624))] [],.ite (.or [.cmp (.var 2) [.eq] [.str "BLR"],.cmp (.var 2) [.eq] [.str "BR"]]) [ .assign 1 (.bin .lor (.var 1) (.call "bit" [.sub (.var 0) (.int 2)]))] [],.ite (.and [.cmp (.var 2) [.eq] [.str "BR"],.cmp (.sub (.var 0) (.int 2)) [.eq] [.glob "LINK" 15]]) [ .assign 1 (.bin .lor (.bin .lor (.var 1) (.glob "HELD" 26624)) (.call "bit" [.int 0]))] [],.ret (.var 1)]
noncomputable def f_reads:Fn where
  params:=1
  nloc:=2
  body :=
  [ .assign 1 (.sub (.var 0) (.int 0)),.ite (.cmp (.var 1) [.isin] [.tup [.str "LDR",.str "LDB",.str "STR",.str "STB"]]) [ .ret (.call "memory_reads" [.var 0])] [],.ite (.cmp (.var 1) [.isin] [.tup [.str "B",.str "BL",.str "BR",.str "BLR",.str "TRAP"]]) [ .ret (.call "branch_reads" [.var 0])] [],.ite (.cmp (.var 1) [.eq] [.str "MOV"]) [ .ret (.call "bit" [.sub (.var 0) (.int 3)])] [],.ite (.cmp (.var 1) [.eq] [.str "GETH"]) [ .ret (.call "bit" [.glob "HIGH" 16])] [],.ite (.call "is_register_form" [.var 1]) [ .ret (.bin .lor (.call "bit" [.sub (.var 0) (.int 2)]) (.call "bit" [.sub (.var 0) (.int 3)]))] [],.ite (.call "is_immediate_form" [.var 1]) [ .ret (.call "bit" [.sub (.var 0) (.int 2)])] [],.ret (.int 0)]
noncomputable def f_call_writes:Fn where
  params:=0
  nloc:=0
  body :=
  [ .ret (.bin .land (.glob "EVERYTHING" 262143) (.inv (.glob "HELD" 26624)))]
noncomputable def f_writes:Fn where
  params:=1
  nloc:=3
  body :=
  [ .assign 1 (.sub (.var 0) (.int 0)),.ite (.or [.cmp (.var 1) [.eq] [.str "LDR"],.cmp (.var 1) [.eq] [.str "LDB"]]) [ .ret (.call "bit" [.sub (.var 0) (.int 1)])] [],.ite (.or [.cmp (.var 1) [.eq] [.str "BL"],.cmp (.var 1) [.eq] [.str "BLR"]]) [ .ret (.ite (.cmp (.sub (.var 0) (.int 1)) [.eq] [.str "AL"]) (.call "call_writes" []) (.int 0))] [],.ite (.cmp (.var 1) [.eq] [.str "TRAP"]) [ .ret (.ite (.and [.cmp (.sub (.var 0) (.int 1)) [.eq] [.str "AL"],.cmp (.sub (.var 0) (.int 2)) [.eq] [.int 0],.cmp (.sub (.var 0) (.int 3)) [.eq] [.int 2]]) (.call "bit" [.int 0]) (.int 0))] [],.ite (.not (.call "sets_flags" [.var 0])) [ .ret (.int 0)] [],.assign 2 (.bin .lor (.call "bit" [.sub (.var 0) (.int 1)]) (.call "bit" [.glob "FLAGS" 17])),.ite (.cmp (.var 1) [.isin] [.tup [.str "MUL",.str "MULI",.str "DIV",.str "DIVI"]]) [ .assign 2 (.bin .lor (.var 2) (.call "bit" [.glob "HIGH" 16]))] [],.ret (.var 2)]
noncomputable def f_leaves_unknown:Fn where
  params:=2
  nloc:=3
  body :=
  [ .assign 2 (.sub (.var 0) (.var 1)),.ite (.and [.cmp (.sub (.var 2) (.int 0)) [.eq] [.str "BR"],.cmp (.sub (.var 2) (.int 2)) [.ne] [.glob "LINK" 15]]) [ .ret (.bool true)] [],.ite (.and [.cmp (.sub (.var 2) (.int 0)) [.eq] [.str "B"],.not (.cmp (.int 0) [.le,.lt] [.call "target_of" [.var 2,.var 1],.bi "len" [.var 0]])]) [ .ret (.bool true)] [],.ret (.and [.call "falls_through" [.var 2],.cmp (.bin .add (.var 1) (.int 1)) [.ge] [.bi "len" [.var 0]]])]
noncomputable def f_live_before:Fn where
  params:=2
  nloc:=2
  body :=
  [ .ret (.bin .lor (.bin .land (.var 1) (.inv (.call "writes" [.var 0]))) (.call "reads" [.var 0]))]
noncomputable def f_liveness_l0:List MS :=
  [ .expr (.meth (.sub (.var 6) (.var 7)) "append" [.var 4])]
noncomputable def f_liveness_l1:List MS :=
  [ .for_ (.one 7) (.sub (.var 5) (.var 4)) f_liveness_l0]
noncomputable def f_liveness_l2:List MS :=
  [ .assign 10 (.bin .lor (.var 10) (.sub (.var 2) (.var 7)))]
noncomputable def f_liveness_l3:List MS :=
  [ .ite (.not (.sub (.var 9) (.var 12))) [ .setSub (.var 9) (.var 12) (.bool true),.expr (.meth (.var 8) "append" [.var 12])] []]
noncomputable def f_liveness_l4:List MS :=
  [ .assign 4 (.meth (.var 8) "pop" []),.setSub (.var 9) (.var 4) (.bool false),.assign 10 (.ite (.call "leaves_unknown" [.var 0,.var 4]) (.glob "EVERYTHING" 262143) (.int 0)),.for_ (.one 7) (.sub (.var 5) (.var 4)) f_liveness_l2,.setSub (.var 3) (.var 4) (.var 10),.assign 11 (.call "live_before" [.sub (.var 0) (.var 4),.var 10]),.ite (.cmp (.var 11) [.ne] [.sub (.var 2) (.var 4)]) [ .setSub (.var 2) (.var 4) (.var 11),.for_ (.one 12) (.sub (.var 6) (.var 4)) f_liveness_l3] []]
noncomputable def f_liveness:Fn where
  params:=1
  nloc:=13
  body :=
  [ .assign 1 (.bi "len" [.var 0]),.assign 2 (.bin .mul (.list [.int 0]) (.var 1)),.assign 3 (.bin .mul (.list [.int 0]) (.var 1)),.assign 5 (.comp [none,none,none,some 0] (.one 1) (.bi "range" [.var 1]) [] (.call "successors" [.var 3,.var 1])),.assign 6 (.comp [none,none] (.one 1) (.bi "range" [.var 1]) [] (.list [])),.for_ (.one 4) (.bi "range" [.var 1]) f_liveness_l1,.assign 8 (.bi "list" [.bi "range" [.var 1]]),.assign 9 (.bin .mul (.list [.bool true]) (.var 1)),.while_ (.cmp (.bi "len" [.var 8]) [.gt] [.int 0]) f_liveness_l4,.ret (.tup [.var 2,.var 3])]
noncomputable def f_is_live:Fn where
  params:=2
  nloc:=2
  body :=
  [ .ret (.cmp (.bin .land (.bin .shr (.var 0) (.var 1)) (.int 1)) [.eq] [.int 1])]
noncomputable def f_init:Fn where
  params:=3
  nloc:=3
  body :=
  [ .setAttr (.var 0) "name" (.var 1),.setAttr (.var 0) "key" (.var 2),.setAttr (.var 0) "imports" (.list []),.setAttr (.var 0) "rows" (.list []),.setAttr (.var 0) "data_size" (.int 0),.setAttr (.var 0) "words" (.list []),.setAttr (.var 0) "data_fixups" (.list []),.setAttr (.var 0) "fixups" (.list []),.setAttr (.var 0) "entries" (.list []),.setAttr (.var 0) "pointers" (.list []),.setAttr (.var 0) "maps" (.dict [] []),.setAttr (.var 0) "commands" (.dict [] []),.setAttr (.var 0) "body" (.int 0)]
noncomputable def f_imported_calls_l0:List MS :=
  [ .ite (.cmp (.var 3) [.eq] [.str "call"]) [ .setSub (.var 1) (.var 2) (.bool true)] []]
noncomputable def f_imported_calls:Fn where
  params:=1
  nloc:=6
  body :=
  [ .assign 1 (.dict [] []),.for_ (.many [2,3,4,5]) (.attr (.var 0) "fixups") f_imported_calls_l0,.ret (.var 1)]
noncomputable def f_own_addresses_l0:List MS :=
  [ .ite (.and [.cmp (.var 3) [.eq] [.str "addr"],.cmp (.var 4) [.eq] [.int 0]]) [ .setSub (.var 1) (.var 2) (.sub (.sub (.attr (.var 0) "rows") (.var 2)) (.int 3))] []]
noncomputable def f_own_addresses:Fn where
  params:=1
  nloc:=6
  body :=
  [ .assign 1 (.dict [] []),.for_ (.many [2,3,4,5]) (.attr (.var 0) "fixups") f_own_addresses_l0,.ret (.var 1)]
noncomputable def f_new_places_l0:List MS :=
  [ .expr (.meth (.var 1) "append" [.var 2]),.ite (.var 3) [ .aug 2 (.int 1)] []]
noncomputable def f_new_places:Fn where
  params:=1
  nloc:=4
  body :=
  [ .assign 1 (.list []),.assign 2 (.int 0),.for_ (.one 3) (.var 0) f_new_places_l0,.expr (.meth (.var 1) "append" [.var 2]),.ret (.var 1)]
noncomputable def f_moved_row:Fn where
  params:=3
  nloc:=4
  body :=
  [ .assign 3 (.call "target_of" [.var 0,.var 1]),.ret (.tup [.sub (.var 0) (.int 0),.sub (.var 0) (.int 1),.bin .sub (.bin .sub (.sub (.var 2) (.var 3)) (.sub (.var 2) (.var 1))) (.int 1),.sub (.var 0) (.int 3)])]
noncomputable def f_moved_rows_l0:List MS :=
  [ .assign 8 (.sub (.var 1) (.var 7)),.ite (.sub (.var 2) (.var 7)) [ .ite (.and [.call "is_branch" [.var 8],.cmp (.var 7) [.notin] [.var 4],.cmp (.int 0) [.le,.le] [.call "target_of" [.var 8,.var 7],.bi "len" [.var 1]]]) [ .assign 8 (.call "moved_row" [.var 8,.var 7,.var 3])] [ .ite (.cmp (.var 7) [.isin] [.var 5]) [ .assign 8 (.tup [.sub (.var 8) (.int 0),.sub (.var 8) (.int 1),.sub (.var 8) (.int 2),.sub (.var 3) (.sub (.var 5) (.var 7))])] []],.expr (.meth (.var 6) "append" [.var 8])] []]
noncomputable def f_moved_rows:Fn where
  params:=4
  nloc:=9
  body :=
  [ .assign 4 (.call "imported_calls" [.var 0]),.assign 5 (.call "own_addresses" [.var 0]),.assign 6 (.list []),.for_ (.one 7) (.bi "range" [.bi "len" [.var 1]]) f_moved_rows_l0,.ret (.var 6)]
noncomputable def f_moved_maps_l0:List MS :=
  [ .ite (.or [.cmp (.var 4) [.eq] [.int 0],.sub (.var 1) (.bin .sub (.var 4) (.int 1))]) [ .assign 5 (.ite (.cmp (.var 4) [.eq] [.int 0]) (.int 0) (.bin .add (.sub (.var 2) (.bin .sub (.var 4) (.int 1))) (.int 1))),.setSub (.var 3) (.var 5) (.bi "list" [.sub (.attr (.var 0) "maps") (.var 4)])] []]
noncomputable def f_moved_maps:Fn where
  params:=3
  nloc:=6
  body :=
  [ .assign 3 (.dict [] []),.for_ (.one 4) (.bi "sorted" [.attr (.var 0) "maps"]) f_moved_maps_l0,.ret (.var 3)]
noncomputable def f_remap_l0:List MS :=
  [ .ite (.sub (.var 2) (.var 5)) [ .expr (.meth (.attr (.var 4) "fixups") "append" [.tup [.sub (.var 3) (.var 5),.var 6,.var 7,.var 8]])] []]
noncomputable def f_remap_l1:List MS :=
  [ .expr (.meth (.attr (.var 4) "entries") "append" [.tup [.var 6,.ite (.cmp (.var 6) [.eq] [.str "code"]) (.sub (.var 3) (.var 9)) (.var 9)]])]
noncomputable def f_remap_l2:List MS :=
  [ .setSub (.attr (.var 4) "commands") (.var 10) (.sub (.var 3) (.sub (.attr (.var 0) "commands") (.var 10)))]
noncomputable def f_remap:Fn where
  params:=3
  nloc:=11
  body :=
  [ .assign 3 (.call "new_places" [.var 2]),.assign 4 (.new [.attr (.var 0) "name",.attr (.var 0) "key"]),.setAttr (.var 4) "imports" (.bi "list" [.attr (.var 0) "imports"]),.setAttr (.var 4) "rows" (.call "moved_rows" [.var 0,.var 1,.var 2,.var 3]),.setAttr (.var 4) "data_size" (.attr (.var 0) "data_size"),.setAttr (.var 4) "words" (.bi "list" [.attr (.var 0) "words"]),.setAttr (.var 4) "data_fixups" (.bi "list" [.attr (.var 0) "data_fixups"]),.for_ (.many [5,6,7,8]) (.attr (.var 0) "fixups") f_remap_l0,.for_ (.many [6,9]) (.attr (.var 0) "entries") f_remap_l1,.setAttr (.var 4) "pointers" (.bi "list" [.attr (.var 0) "pointers"]),.setAttr (.var 4) "maps" (.call "moved_maps" [.var 0,.var 2,.var 3]),.for_ (.one 10) (.attr (.var 0) "commands") f_remap_l2,.setAttr (.var 4) "body" (.sub (.var 3) (.attr (.var 0) "body")),.ret (.var 4)]
noncomputable def f_with_rows:Fn where
  params:=2
  nloc:=2
  body :=
  [ .ret (.call "remap" [.var 0,.var 1,.bin .mul (.list [.bool true]) (.bi "len" [.var 1])])]
noncomputable def f_table_rows_l0:List MS :=
  [ .setSub (.var 2) (.var 4) (.bool true),.aug 4 (.int 1)]
noncomputable def f_table_rows_l1:List MS :=
  [ .assign 4 (.sub (.var 1) (.var 3)),.while_ (.and [.cmp (.var 4) [.lt] [.bi "len" [.attr (.var 0) "rows"]],.cmp (.sub (.sub (.attr (.var 0) "rows") (.var 4)) (.int 0)) [.eq] [.str "B"],.cmp (.sub (.sub (.attr (.var 0) "rows") (.var 4)) (.int 1)) [.eq] [.str "AL"]]) f_table_rows_l0]
noncomputable def f_table_rows:Fn where
  params:=1
  nloc:=5
  body :=
  [ .assign 1 (.call "own_addresses" [.var 0]),.assign 2 (.dict [] []),.for_ (.one 3) (.bi "sorted" [.var 1]) f_table_rows_l1,.ret (.var 2)]
noncomputable def f_start_rows_l0:List MS :=
  [ .ite (.cmp (.var 2) [.eq] [.str "code"]) [ .setSub (.var 1) (.var 3) (.bool true)] []]
noncomputable def f_start_rows_l1:List MS :=
  [ .setSub (.var 1) (.sub (.attr (.var 0) "commands") (.var 4)) (.bool true)]
noncomputable def f_start_rows_l2:List MS :=
  [ .setSub (.var 1) (.sub (.var 5) (.var 6)) (.bool true)]
noncomputable def f_start_rows:Fn where
  params:=1
  nloc:=7
  body :=
  [ .assign 1 (.bi "dict" [.call "table_rows" [.var 0]]),.setSub (.var 1) (.attr (.var 0) "body") (.bool true),.for_ (.many [2,3]) (.attr (.var 0) "entries") f_start_rows_l0,.for_ (.one 4) (.attr (.var 0) "commands") f_start_rows_l1,.assign 5 (.call "own_addresses" [.var 0]),.for_ (.one 6) (.var 5) f_start_rows_l2,.ret (.bi "sorted" [.var 1])]
noncomputable def f_fixed_rows_l0:List MS :=
  [ .setSub (.var 1) (.var 2) (.bool true)]
noncomputable def f_fixed_rows:Fn where
  params:=1
  nloc:=6
  body :=
  [ .assign 1 (.dict [] []),.for_ (.many [2,3,4,5]) (.attr (.var 0) "fixups") f_fixed_rows_l0,.ret (.var 1)]
noncomputable def f_end_of_chain_l0:List MS :=
  [ .ite (.cmp (.var 3) [.isin] [.var 2]) [ .ret (.var 1)] [],.setSub (.var 2) (.var 3) (.bool true),.assign 3 (.call "target_of" [.sub (.var 0) (.var 3),.var 3])]
noncomputable def f_end_of_chain:Fn where
  params:=2
  nloc:=4
  body :=
  [ .assign 2 (.dict [] []),.assign 3 (.var 1),.while_ (.and [.cmp (.int 0) [.le] [.var 3],.cmp (.var 3) [.lt] [.bi "len" [.var 0]],.cmp (.sub (.sub (.var 0) (.var 3)) (.int 0)) [.eq] [.str "B"],.cmp (.sub (.sub (.var 0) (.var 3)) (.int 1)) [.eq] [.str "AL"]]) f_end_of_chain_l0,.ret (.var 3)]
noncomputable def f_straightened_l0:List MS :=
  [ .assign 3 (.sub (.var 1) (.var 2)),.ite (.and [.cmp (.sub (.var 3) (.int 0)) [.eq] [.str "B"],.call "can_jump" [.var 3]]) [ .assign 4 (.call "end_of_chain" [.attr (.var 0) "rows",.call "target_of" [.var 3,.var 2]]),.setSub (.var 1) (.var 2) (.tup [.sub (.var 3) (.int 0),.sub (.var 3) (.int 1),.bin .sub (.bin .sub (.var 4) (.var 2)) (.int 1),.sub (.var 3) (.int 3)])] []]
noncomputable def f_straightened:Fn where
  params:=1
  nloc:=5
  body :=
  [ .assign 1 (.bi "list" [.attr (.var 0) "rows"]),.for_ (.one 2) (.bi "range" [.bi "len" [.var 1]]) f_straightened_l0,.ret (.call "with_rows" [.var 0,.var 1])]
noncomputable def f_without_dead_l0:List MS :=
  [ .setSub (.var 1) (.var 2) (.bool true)]
noncomputable def f_without_dead:Fn where
  params:=1
  nloc:=3
  body :=
  [ .assign 1 (.bin .mul (.list [.bool false]) (.bi "len" [.attr (.var 0) "rows"])),.for_ (.one 2) (.call "reach_rows" [.attr (.var 0) "rows",.call "start_rows" [.var 0]]) f_without_dead_l0,.ret (.call "remap" [.var 0,.attr (.var 0) "rows",.var 1])]
noncomputable def f_without_idle_branches_l0:List MS :=
  [ .assign 4 (.sub (.attr (.var 0) "rows") (.var 3)),.assign 5 (.and [.cmp (.sub (.var 4) (.int 0)) [.eq] [.str "B"],.or [.cmp (.sub (.var 4) (.int 2)) [.eq] [.int 0],.not (.call "can_jump" [.var 4])]]),.expr (.meth (.var 2) "append" [.or [.not (.var 5),.cmp (.var 3) [.isin] [.var 1]]])]
noncomputable def f_without_idle_branches:Fn where
  params:=1
  nloc:=6
  body :=
  [ .assign 1 (.call "table_rows" [.var 0]),.assign 2 (.list []),.for_ (.one 3) (.bi "range" [.bi "len" [.attr (.var 0) "rows"]]) f_without_idle_branches_l0,.ret (.call "remap" [.var 0,.attr (.var 0) "rows",.var 2])]
noncomputable def f_is_idle:Fn where
  params:=1
  nloc:=1
  body :=
  [ .ite (.cmp (.sub (.var 0) (.int 0)) [.eq] [.str "MOV"]) [ .ret (.cmp (.sub (.var 0) (.int 1)) [.eq] [.sub (.var 0) (.int 3)])] [],.ite (.cmp (.sub (.var 0) (.int 0)) [.isin] [.tup [.str "ADDI",.str "SUBI",.str "IORI",.str "XORI",.str "ANNI",.str "LSLI",.str "ASRI",.str "RORI"]]) [ .ret (.and [.cmp (.sub (.var 0) (.int 1)) [.eq] [.sub (.var 0) (.int 2)],.cmp (.sub (.var 0) (.int 3)) [.eq] [.int 0]])] [],.ret (.bool false)]
noncomputable def f_without_idle_rows_l0:List MS :=
  [ .assign 6 (.and [.call "is_idle" [.sub (.attr (.var 0) "rows") (.var 5)],.cmp (.var 5) [.notin] [.var 1]]),.expr (.meth (.var 4) "append" [.or [.not (.var 6),.call "is_live" [.sub (.var 3) (.var 5),.glob "FLAGS" 17]]])]
noncomputable def f_without_idle_rows:Fn where
  params:=1
  nloc:=7
  body :=
  [ .assign 1 (.call "fixed_rows" [.var 0]),.unpack [.var 2,.var 3] (.call "liveness" [.attr (.var 0) "rows"]),.assign 4 (.list []),.for_ (.one 5) (.bi "range" [.bi "len" [.attr (.var 0) "rows"]]) f_without_idle_rows_l0,.ret (.call "remap" [.var 0,.attr (.var 0) "rows",.var 4])]
noncomputable def f_entered_rows_l0:List MS :=
  [ .setSub (.var 1) (.var 2) (.bool true)]
noncomputable def f_entered_rows:Fn where
  params:=1
  nloc:=3
  body :=
  [ .assign 1 (.dict [] []),.for_ (.one 2) (.call "targets" [.attr (.var 0) "rows",.call "start_rows" [.var 0]]) f_entered_rows_l0,.ret (.var 1)]
noncomputable def f_same_word:Fn where
  params:=2
  nloc:=2
  body :=
  [ .ite (.or [.cmp (.sub (.var 0) (.int 0)) [.ne] [.str "STR"],.cmp (.sub (.var 1) (.int 0)) [.ne] [.str "LDR"]]) [ .ret (.bool false)] [],.ret (.and [.cmp (.sub (.var 0) (.int 2)) [.eq] [.sub (.var 1) (.int 2)],.cmp (.sub (.var 0) (.int 3)) [.eq] [.sub (.var 1) (.int 3)]])]
noncomputable def f_without_reloads_l0:List MS :=
  [ .unpack [.var 8,.var 9] (.tup [.sub (.attr (.var 0) "rows") (.bin .sub (.var 7) (.int 1)),.sub (.attr (.var 0) "rows") (.var 7)]),.assign 10 (.and [.cmp (.var 7) [.notin] [.var 2],.cmp (.var 7) [.notin] [.var 1],.cmp (.bin .sub (.var 7) (.int 1)) [.notin] [.var 1]]),.ite (.and [.var 10,.call "same_word" [.var 8,.var 9]]) [ .ite (.cmp (.sub (.var 9) (.int 1)) [.eq] [.sub (.var 8) (.int 1)]) [ .setSub (.var 6) (.var 7) (.bool false)] [ .ite (.not (.call "is_live" [.sub (.var 4) (.var 7),.glob "FLAGS" 17])) [ .setSub (.var 5) (.var 7) (.tup [.str "MOV",.sub (.var 9) (.int 1),.int 0,.sub (.var 8) (.int 1)])] []]] []]
noncomputable def f_without_reloads:Fn where
  params:=1
  nloc:=11
  body :=
  [ .assign 1 (.call "fixed_rows" [.var 0]),.assign 2 (.call "entered_rows" [.var 0]),.unpack [.var 3,.var 4] (.call "liveness" [.attr (.var 0) "rows"]),.assign 5 (.bi "list" [.attr (.var 0) "rows"]),.assign 6 (.bin .mul (.list [.bool true]) (.bi "len" [.var 5])),.for_ (.one 7) (.bi "range" [.int 1,.bi "len" [.var 5]]) f_without_reloads_l0,.ret (.call "remap" [.var 0,.var 5,.var 6])]
noncomputable def f_improve_l0:List MS :=
  [ .assign 3 (.call "without_reloads" [.call "straightened" [.var 1]]),.assign 3 (.call "without_idle_rows" [.call "without_idle_branches" [.var 3]]),.assign 3 (.call "without_dead" [.var 3]),.ite (.cmp (.attr (.var 3) "rows") [.eq] [.attr (.var 1) "rows"]) [ .ret (.var 3)] [],.assign 1 (.var 3)]
noncomputable def f_improve:Fn where
  params:=1
  nloc:=4
  body :=
  [ .assign 1 (.var 0),.for_ (.one 2) (.bi "range" [.glob "ROUNDS" 10]) f_improve_l0,.ret (.var 1)]
noncomputable def f_law_row_l0:List MS :=
  [ .ite (.cmp (.var 3) [.gt] [.int 0]) [ .expr (.meth (.var 1) "append" [.bin .mod (.var 3) (.int 1024)]),.assign 3 (.bin .fdiv (.var 3) (.int 1024))] []]
noncomputable def f_law_row_l1:List MS :=
  [ .assign 3 (.ite (.cmp (.var 2) [.ge] [.int 0]) (.var 2) (.bin .sub (.int 7) (.var 2))),.expr (.meth (.var 1) "append" [.bin .mod (.var 3) (.int 1024)]),.assign 3 (.bin .fdiv (.var 3) (.int 1024)),.for_ (.one 4) (.bi "range" [.int 30]) f_law_row_l0]
noncomputable def f_law_row:Fn where
  params:=1
  nloc:=5
  body :=
  [ .assign 1 (.list []),.for_ (.one 2) (.sliceTo (.var 0) (.int 40)) f_law_row_l1,.assign 1 (.sliceTo (.var 1) (.int 160)),.expr (.meth (.var 1) "reverse" []),.ret (.var 1)]
noncomputable def f_law_next:Fn where
  params:=1
  nloc:=1
  body :=
  [ .ret (.ite (.cmp (.var 0) [.ne] [.list []]) (.meth (.var 0) "pop" []) (.int 0))]
noncomputable def f_law_holds:Fn where
  params:=2
  nloc:=9
  body :=
  [ .unpack [.var 2,.var 3,.var 4,.var 5] (.var 1),.assign 6 (.list [.str "MI",.str "EQ",.str "CS",.str "VS",.str "LS",.str "LT",.str "LE",.str "AL",.str "PL",.str "NE",.str "CC",.str "VC",.str "HI",.str "GE",.str "GT",.str "NV"]),.assign 7 (.meth (.var 6) "index" [.var 0]),.assign 8 (.sub (.list [.var 2,.var 3,.var 4,.var 5,.or [.var 4,.var 3],.cmp (.var 2) [.ne] [.var 5],.or [.var 3,.cmp (.var 2) [.ne] [.var 5]],.bool true]) (.bin .mod (.var 7) (.int 8))),.ret (.ite (.cmp (.var 7) [.lt] [.int 8]) (.var 8) (.not (.var 8)))]
noncomputable def f_law_plus:Fn where
  params:=1
  nloc:=1
  body :=
  [ .ret (.ite (.cmp (.var 0) [.ge] [.bin .pow (.int 2) (.int 31)]) (.bin .sub (.var 0) (.bin .pow (.int 2) (.int 32))) (.var 0))]
noncomputable def f_law_act:Fn where
  params:=3
  nloc:=10
  body :=
  [ .assign 3 (.call "_law_plus" [.var 1]),.assign 4 (.call "_law_plus" [.var 2]),.assign 5 (.bin .mod (.var 2) (.int 32)),.assign 6 (.bool false),.assign 7 (.bool false),.assign 8 (.none),.ite (.cmp (.var 0) [.eq] [.str "MOV"]) [ .assign 9 (.var 2)] [ .ite (.cmp (.var 0) [.eq] [.str "ADD"]) [ .assign 9 (.bin .add (.var 1) (.var 2)),.assign 7 (.cmp (.var 9) [.ge] [.bin .pow (.int 2) (.int 32)]),.assign 6 (.not (.cmp (.neg (.bin .pow (.int 2) (.int 31))) [.le,.lt] [.bin .add (.var 3) (.var 4),.bin .pow (.int 2) (.int 31)]))] [ .ite (.cmp (.var 0) [.eq] [.str "SUB"]) [ .assign 9 (.bin .sub (.var 1) (.var 2)),.assign 7 (.cmp (.var 1) [.lt] [.var 2]),.assign 6 (.not (.cmp (.neg (.bin .pow (.int 2) (.int 31))) [.le,.lt] [.bin .sub (.var 3) (.var 4),.bin .pow (.int 2) (.int 31)]))] [ .ite (.cmp (.var 0) [.eq] [.str "MUL"]) [ .assign 9 (.bin .mul (.var 3) (.var 4)),.assign 6 (.not (.cmp (.neg (.bin .pow (.int 2) (.int 31))) [.le,.lt] [.var 9,.bin .pow (.int 2) (.int 31)])),.assign 8 (.bin .mod (.bin .fdiv (.var 9) (.bin .pow (.int 2) (.int 32))) (.bin .pow (.int 2) (.int 32)))] [ .ite (.cmp (.var 0) [.eq] [.str "DIV"]) [ .assign 9 (.bin .fdiv (.var 3) (.var 4)),.assign 8 (.bin .mod (.var 3) (.var 4))] [ .ite (.cmp (.var 0) [.eq] [.str "LSL"]) [ .assign 9 (.bin .mul (.var 1) (.bin .pow (.int 2) (.var 5)))] [ .ite (.cmp (.var 0) [.eq] [.str "ASR"]) [ .assign 9 (.bin .fdiv (.var 3) (.bin .pow (.int 2) (.var 5)))] [ .ite (.cmp (.var 0) [.eq] [.str "ROR"]) [ .assign 9 (.bin .add (.bin .fdiv (.var 1) (.bin .pow (.int 2) (.var 5))) (.bin .mul (.var 1) (.bin .pow (.int 2) (.bin .sub (.int 32) (.var 5)))))] [ .ite (.cmp (.var 0) [.eq] [.str "AND"]) [ .assign 9 (.bin .land (.var 1) (.var 2))] [ .ite (.cmp (.var 0) [.eq] [.str "ANN"]) [ .assign 9 (.bin .land (.var 1) (.bin .sub (.bin .sub (.bin .pow (.int 2) (.int 32)) (.int 1)) (.var 2)))] [ .assign 9 (.ite (.cmp (.var 0) [.eq] [.str "IOR"]) (.bin .lor (.var 1) (.var 2)) (.bin .lxor (.var 1) (.var 2)))]]]]]]]]]],.assign 9 (.bin .mod (.var 9) (.bin .pow (.int 2) (.int 32))),.ret (.tup [.var 9,.list [.cmp (.var 9) [.ge] [.bin .pow (.int 2) (.int 31)],.cmp (.var 9) [.eq] [.int 0],.var 7,.var 6],.var 8])]
noncomputable def f_law_got:Fn where
  params:=2
  nloc:=2
  body :=
  [ .ret (.bi "sum" [.comp [none,none,some 1,some 0] (.one 1) (.bi "range" [.int 4]) [] (.bin .mul (.meth (.var 3) "get" [.bin .add (.var 2) (.var 1),.int 0]) (.bin .pow (.int 256) (.var 1)))])]
noncomputable def f_law_step_l0:List MS :=
  [ .setSub (.var 2) (.bin .add (.var 7) (.var 8)) (.bin .mod (.bin .fdiv (.sub (.var 1) (.var 4)) (.bin .pow (.int 256) (.var 8))) (.int 256))]
noncomputable def f_law_step:Fn where
  params:=1
  nloc:=13
  body :=
  [ .unpack [.var 1,.var 2] (.tup [.sub (.var 0) (.str "regs"),.sub (.var 0) (.str "cells")]),.unpack [.var 3,.var 4,.var 5,.var 6] (.sub (.sub (.var 0) (.str "rows")) (.sub (.var 0) (.str "pc"))),.augSub (.var 0) (.str "pc") (.int 1),.ite (.cmp (.var 3) [.isin] [.tup [.str "LDR",.str "LDB",.str "STR",.str "STB"]]) [ .assign 7 (.bin .mod (.bin .add (.sub (.var 1) (.var 5)) (.var 6)) (.bin .pow (.int 2) (.int 32))),.assign 7 (.ite (.cmp (.sub (.var 3) (.int 2)) [.eq] [.str "B"]) (.var 7) (.bin .mul (.bin .fdiv (.var 7) (.int 4)) (.int 4))),.ite (.cmp (.var 7) [.ge] [.sub (.var 0) (.str "size")]) [ .ret (.tup [.str "trap",.int 4,.int 0])] [],.ite (.cmp (.var 3) [.eq] [.str "LDR"]) [ .setSub (.var 1) (.var 4) (.call "_law_got" [.var 2,.var 7])] [ .ite (.cmp (.var 3) [.eq] [.str "LDB"]) [ .setSub (.var 1) (.var 4) (.meth (.var 2) "get" [.var 7,.int 0])] [ .for_ (.one 8) (.bi "range" [.ite (.cmp (.var 3) [.eq] [.str "STR"]) (.int 4) (.int 1)]) f_law_step_l0]],.ret (.none)] [],.ite (.cmp (.var 3) [.isin] [.tup [.str "B",.str "BL",.str "BR",.str "BLR",.str "TRAP"]]) [ .ite (.not (.call "_law_holds" [.var 4,.sub (.var 0) (.str "marks")])) [ .ret (.none)] [],.ite (.cmp (.var 3) [.eq] [.str "TRAP"]) [ .ret (.tup [.str "trap",.var 5,.var 6])] [],.assign 9 (.ite (.cmp (.var 3) [.isin] [.tup [.str "B",.str "BL"]]) (.bin .add (.sub (.var 0) (.str "pc")) (.var 5)) (.sub (.var 1) (.var 5))),.ite (.cmp (.var 3) [.isin] [.tup [.str "BL",.str "BLR"]]) [ .setSub (.var 1) (.int 15) (.sub (.var 0) (.str "pc"))] [],.setSub (.var 0) (.str "pc") (.var 9),.ret (.none)] [],.ite (.cmp (.var 3) [.eq] [.str "GETH"]) [ .unpack [.var 3,.var 10,.var 11] (.tup [.str "MOV",.int 0,.sub (.var 0) (.str "high")])] [ .ite (.cmp (.var 3) [.eq] [.str "MOVH"]) [ .unpack [.var 3,.var 10,.var 11] (.tup [.str "MOV",.int 0,.bin .mod (.bin .mul (.var 6) (.int 65536)) (.bin .pow (.int 2) (.int 32))])] [ .ite (.cmp (.sub (.var 3) (.neg (.int 1))) [.eq] [.str "I"]) [ .unpack [.var 3,.var 10,.var 11] (.tup [.sliceTo (.var 3) (.neg (.int 1)),.sub (.var 1) (.var 5),.bin .mod (.var 6) (.bin .pow (.int 2) (.int 32))])] [ .unpack [.var 10,.var 11] (.tup [.sub (.var 1) (.var 5),.sub (.var 1) (.var 6)])]]],.ite (.and [.cmp (.var 3) [.eq] [.str "DIV"],.cmp (.call "_law_plus" [.var 11]) [.le] [.int 0]]) [ .ret (.tup [.str "trap",.int 6,.int 0])] [],.unpack [.sub (.var 1) (.var 4),.sub (.var 0) (.str "marks"),.var 12] (.call "_law_act" [.var 3,.var 10,.var 11]),.ite (.cmp (.var 12) [.isnot] [.none]) [ .setSub (.var 0) (.str "high") (.var 12)] [],.ret (.none)]
noncomputable def f_law_made:Fn where
  params:=2
  nloc:=7
  body :=
  [ .assign 2 (.bin .mod (.call "_law_next" [.var 0]) (.int 12)),.assign 3 (.bin .mod (.call "_law_next" [.var 0]) (.int 4)),.assign 4 (.bin .mod (.call "_law_next" [.var 0]) (.int 4)),.assign 5 (.sub (.list [.str "AL",.str "EQ",.str "NE",.str "LT",.str "GE",.str "NV",.str "AL",.str "HI"]) (.bin .mod (.call "_law_next" [.var 0]) (.int 8))),.ite (.cmp (.var 2) [.lt] [.int 2]) [ .ret (.tup [.sub (.list [.str "MOV",.str "ADD",.str "SUB",.str "IOR"]) (.bin .mod (.call "_law_next" [.var 0]) (.int 4)),.var 3,.var 4,.bin .mod (.call "_law_next" [.var 0]) (.int 4)])] [],.ite (.cmp (.var 2) [.lt] [.int 5]) [ .assign 6 (.sub (.list [.str "ADDI",.str "SUBI",.str "MOVI",.str "IORI",.str "LSLI"]) (.bin .mod (.call "_law_next" [.var 0]) (.int 5))),.ret (.tup [.var 6,.var 3,.ite (.cmp (.bin .mod (.call "_law_next" [.var 0]) (.int 2)) [.eq] [.int 1]) (.var 3) (.var 4),.sub (.list [.int 0,.int 1,.neg (.int 1),.int 5]) (.bin .mod (.call "_law_next" [.var 0]) (.int 4))])] [],.ite (.cmp (.var 2) [.lt] [.int 8]) [ .ret (.tup [.sub (.list [.str "LDR",.str "STR",.str "STR",.str "LDR",.str "STB"]) (.bin .mod (.call "_law_next" [.var 0]) (.int 5)),.var 3,.int 13,.bin .add (.int 64) (.bin .mul (.int 4) (.bin .mod (.call "_law_next" [.var 0]) (.int 3)))])] [],.ite (.cmp (.var 2) [.lt] [.int 10]) [ .ret (.tup [.str "B",.var 5,.bin .sub (.bin .mod (.call "_law_next" [.var 0]) (.bin .add (.var 1) (.int 2))) (.bin .fdiv (.var 1) (.int 2)),.int 0])] [],.ite (.cmp (.var 2) [.eq] [.int 10]) [ .ret (.tup [.str "TRAP",.var 5,.bin .add (.int 1) (.bin .mod (.call "_law_next" [.var 0]) (.int 9)),.call "_law_next" [.var 0]])] [],.ret (.tup [.str "BR",.var 5,.int 15,.int 0])]
noncomputable def f_law_object_l0:List MS :=
  [ .assign 4 (.call "_law_made" [.var 0,.var 1]),.ite (.cmp (.sub (.var 4) (.int 0)) [.eq] [.str "B"]) [ .assign 4 (.tup [.str "B",.sub (.var 4) (.int 1),.bi "max" [.bin .sub (.neg (.var 3)) (.int 1),.bi "min" [.bin .sub (.bin .sub (.var 1) (.var 3)) (.int 1),.sub (.var 4) (.int 2)]],.int 0])] [],.ite (.cmp (.sub (.var 4) (.int 0)) [.isin] [.tup [.str "MOV",.str "MOVI"]]) [ .assign 4 (.tup [.sub (.var 4) (.int 0),.sub (.var 4) (.int 1),.int 0,.sub (.var 4) (.int 3)])] [],.expr (.meth (.attr (.var 2) "rows") "append" [.var 4]),.ite (.and [.cmp (.sub (.var 4) (.int 0)) [.isin] [.tup [.str "LDR",.str "STR"]],.cmp (.bin .mod (.call "_law_next" [.var 0]) (.int 6)) [.eq] [.int 5]]) [ .expr (.meth (.attr (.var 2) "fixups") "append" [.tup [.var 3,.str "data",.int 0,.int 0]])] []]
noncomputable def f_law_object_l1:List MS :=
  [ .expr (.meth (.attr (.var 2) "entries") "append" [.tup [.str "code",.bin .mod (.call "_law_next" [.var 0]) (.bin .add (.var 1) (.int 1))]])]
noncomputable def f_law_object:Fn where
  params:=1
  nloc:=6
  body :=
  [ .assign 1 (.bin .mod (.call "_law_next" [.var 0]) (.int 13)),.assign 2 (.new [.str "M",.int 5]),.for_ (.one 3) (.bi "range" [.var 1]) f_law_object_l0,.expr (.meth (.attr (.var 2) "rows") "append" [.tup [.str "BR",.str "AL",.int 15,.int 0]]),.setAttr (.var 2) "data_size" (.int 128),.for_ (.one 5) (.bi "range" [.bin .mod (.call "_law_next" [.var 0]) (.int 3)]) f_law_object_l1,.expr (.meth (.attr (.var 2) "entries") "append" [.tup [.str "data",.int 8]]),.setAttr (.var 2) "commands" (.dict ["Go"] [.bin .mod (.call "_law_next" [.var 0]) (.bin .add (.var 1) (.int 1))]),.setAttr (.var 2) "body" (.bin .mod (.call "_law_next" [.var 0]) (.bin .add (.var 1) (.int 1))),.ret (.var 2)]
noncomputable def f_law_ran_l0:List MS :=
  [ .assign 5 (.call "_law_step" [.var 3]),.assign 6 (.sub (.var 3) (.str "regs")),.assign 7 (.comp [none,none,some 3] (.one 1) (.bi "range" [.int 60,.int 80]) [] (.meth (.sub (.var 2) (.str "cells")) "get" [.var 1,.int 0])),.ite (.cmp (.var 5) [.isnot] [.none]) [ .ret (.tup [.var 5,.var 7])] [],.ite (.cmp (.sub (.var 3) (.str "pc")) [.ge] [.int 5000]) [ .ret (.tup [.str "return",.var 7,.sub (.var 6) (.int 0),.sub (.var 6) (.int 11),.sub (.var 6) (.int 13),.sub (.var 6) (.int 14)])] [],.ite (.not (.cmp (.int 0) [.le,.lt] [.sub (.var 3) (.str "pc"),.bi "len" [.var 0]])) [ .ret (.tup [.str "lost",.var 4])] []]
noncomputable def f_law_ran:Fn where
  params:=3
  nloc:=8
  body :=
  [ .assign 3 (.dict ["regs", "cells", "rows", "pc", "size", "high", "marks"] [.bi "list" [.var 2],.dcomp [none,none] (.one 1) (.bi "range" [.int 12]) (.bin .add (.int 64) (.var 1)) (.bin .add (.bin .mul (.int 7) (.var 1)) (.int 1)),.var 0,.var 1,.int 4096,.int 0,.bin .mul (.list [.bool false]) (.int 4)]),.for_ (.one 4) (.bi "range" [.int 80]) f_law_ran_l0,.ret (.none)]
noncomputable def f_law_l0:List MS :=
  [ .ite (.or [.not (.cmp (.int 0) [.le,.lt] [.var 5,.bi "len" [.attr (.var 4) "rows"]]),.cmp (.var 6) [.ne] [.str "data"],.cmp (.sub (.sub (.attr (.var 4) "rows") (.var 5)) (.int 0)) [.notin] [.tup [.str "LDR",.str "STR"]]]) [ .ret (.bool false)] []]
noncomputable def f_law_l1:List MS :=
  [ .ite (.or [.cmp (.sub (.var 12) (.int 0)) [.ne] [.sub (.var 13) (.int 0)],.and [.cmp (.sub (.var 12) (.int 0)) [.eq] [.str "data"],.cmp (.var 12) [.ne] [.var 13]]]) [ .ret (.bool false)] [],.ite (.cmp (.sub (.var 12) (.int 0)) [.eq] [.str "code"]) [ .expr (.meth (.var 11) "append" [.tup [.sub (.var 12) (.int 1),.sub (.var 13) (.int 1),.sub (.var 14) (.int 1)]])] []]
noncomputable def f_law_l2:List MS :=
  [ .assign 15 (.call "_law_ran" [.attr (.var 2) "rows",.var 12,.var 10]),.ite (.and [.cmp (.var 15) [.isnot] [.none],.or [.cmp (.call "_law_ran" [.attr (.var 4) "rows",.var 13,.var 10]) [.ne] [.var 15],.cmp (.call "_law_ran" [.attr (.var 9) "rows",.var 14,.var 10]) [.ne] [.var 15]]]) [ .ret (.bool false)] []]
noncomputable def f_law:Fn where
  params:=1
  nloc:=16
  body :=
  [ .assign 1 (.call "_law_row" [.var 0]),.assign 2 (.call "_law_object" [.var 1]),.assign 3 (.list [.bi "list" [.attr (.var 2) "rows"],.bi "list" [.attr (.var 2) "fixups"],.bi "list" [.attr (.var 2) "entries"],.bi "dict" [.attr (.var 2) "commands"],.attr (.var 2) "body"]),.assign 4 (.call "improve" [.var 2]),.ite (.or [.cmp (.list [.attr (.var 2) "rows",.attr (.var 2) "fixups",.attr (.var 2) "entries",.attr (.var 2) "commands",.attr (.var 2) "body"]) [.ne] [.var 3],.cmp (.bi "len" [.attr (.var 4) "rows"]) [.gt] [.bi "len" [.attr (.var 2) "rows"]]]) [ .ret (.bool false)] [],.for_ (.many [5,6,7,8]) (.attr (.var 4) "fixups") f_law_l0,.assign 9 (.call "improve" [.var 4]),.assign 10 (.bin .add (.bin .add (.list [.bin .mod (.call "_law_next" [.var 1]) (.int 6),.bin .mod (.call "_law_next" [.var 1]) (.int 6),.bin .sub (.bin .pow (.int 2) (.int 32)) (.int 1),.int 0]) (.bin .mul (.list [.int 9]) (.int 7))) (.list [.int 2000,.int 9,.int 0,.int 1900,.int 5000])),.assign 11 (.list [.tup [.attr (.var 2) "body",.attr (.var 4) "body",.attr (.var 9) "body"],.tup [.sub (.attr (.var 2) "commands") (.str "Go"),.sub (.attr (.var 4) "commands") (.str "Go"),.sub (.attr (.var 9) "commands") (.str "Go")]]),.forZip (.many [12,13,14]) [.attr (.var 2) "entries",.attr (.var 4) "entries",.attr (.var 9) "entries"] f_law_l1,.ite (.or [.cmp (.bi "len" [.attr (.var 4) "entries"]) [.ne] [.bi "len" [.attr (.var 2) "entries"]],.cmp (.attr (.var 4) "data_size") [.ne] [.int 128],.cmp (.attr (.var 4) "key") [.ne] [.int 5]]) [ .ret (.bool false)] [],.for_ (.many [12,13,14]) (.var 11) f_law_l2,.ret (.bool true)]
noncomputable def fnsL:List (String × Fn) :=
  [("is_branch",f_is_branch),
   ("target_of",f_target_of),
   ("falls_through",f_falls_through),
   ("can_jump",f_can_jump),
   ("successors",f_successors),
   ("called_rows",f_called_rows),
   ("targets",f_targets),
   ("reach_rows",f_reach_rows),
   ("bit",f_bit),
   ("is_register_form",f_is_register_form),
   ("is_immediate_form",f_is_immediate_form),
   ("is_conditional",f_is_conditional),
   ("sets_flags",f_sets_flags),
   ("memory_reads",f_memory_reads),
   ("branch_reads",f_branch_reads),
   ("reads",f_reads),
   ("call_writes",f_call_writes),
   ("writes",f_writes),
   ("leaves_unknown",f_leaves_unknown),
   ("live_before",f_live_before),
   ("liveness",f_liveness),
   ("is_live",f_is_live),
   ("__init__",f_init),
   ("imported_calls",f_imported_calls),
   ("own_addresses",f_own_addresses),
   ("new_places",f_new_places),
   ("moved_row",f_moved_row),
   ("moved_rows",f_moved_rows),
   ("moved_maps",f_moved_maps),
   ("remap",f_remap),
   ("with_rows",f_with_rows),
   ("table_rows",f_table_rows),
   ("start_rows",f_start_rows),
   ("fixed_rows",f_fixed_rows),
   ("end_of_chain",f_end_of_chain),
   ("straightened",f_straightened),
   ("without_dead",f_without_dead),
   ("without_idle_branches",f_without_idle_branches),
   ("is_idle",f_is_idle),
   ("without_idle_rows",f_without_idle_rows),
   ("entered_rows",f_entered_rows),
   ("same_word",f_same_word),
   ("without_reloads",f_without_reloads),
   ("improve",f_improve),
   ("_law_row",f_law_row),
   ("_law_next",f_law_next),
   ("_law_holds",f_law_holds),
   ("_law_plus",f_law_plus),
   ("_law_act",f_law_act),
   ("_law_got",f_law_got),
   ("_law_step",f_law_step),
   ("_law_made",f_law_made),
   ("_law_object",f_law_object),
   ("_law_ran",f_law_ran),
   ("law",f_law)]
noncomputable def fns (f:String):Option Fn:=fnsL.lookup f
end Mine
end
section
open PySem PySem.W PyProof.Rows
set_option maxRecDepth 100000
set_option maxHeartbeats 8000000
namespace Mine
noncomputable def prog:Program:=PySem.Challenge.pw_pb0362_01
noncomputable def sv (x:String) (t:Nat):Value:=.str (Str.ofString x) t
noncomputable def fileV (t:Nat):Value:=sv "/claim/cut.py" t
noncomputable def tupO (vs:List Value):Obj:={ cls:=.type "tuple",data:=.seq (Array.mk vs) }
noncomputable def fieldsO (c:Value) (vs:List Value):Obj:={ cls:=c,data:=.fields (Array.mk vs) }
noncomputable def hasCell (sc:Scope):Bool:=sc.names.any (·.2 == .cell)
noncomputable def locs (sc:Scope):List Str:=if hasCell sc then [] else (sc.names.filter (·.2 == .local)).map (·.1)
noncomputable def strsFrom:List Str->Nat->List Value
  | [],_=>[]
  | x::xs,t=>.str x t::strsFrom xs (t+1)
noncomputable def codeO (nm qn:Str) (t ln na fl b m:Nat) (opt:Bool) (x2 x3 x4:Value):Obj :=
  fieldsO (.type "code") [.str nm t,.str qn (t+1),fileV (t+2),.int ln 0,.int na 0,.int 0 0,.int 0 0,.int fl 0,.ref b,.bool opt,.int 181 0,.ref (b+1),.none,x2,x3,x4,.int (t+3+m:Nat) 0,.int ln 0,fileV (t+4+m)]
noncomputable def fnBlock (b t:Nat) (mn:Value) (nm qn:Str) (ar:Arguments) (body:List Stmt) (sc:Scope) (ln:Nat):List Obj :=
  let vs:=locs sc
  let f:FuncData:={ name:=nm,qualname:=qn,params:=ar,body:=.stmts body,scope:=sc,globals:=0,closure:=[],defaults:=.none,kwdefaults:=.none }
  let fo:Obj:={ cls:=.none,data:=.func f }
  let go (c:Nat):Obj:={ cls:=.type "function",data:=.func { f with globals:=3,pyModule:=mn,code:=.ref c } }
  tupO []::fieldsO .none []::if hasCell sc then [fo,codeO nm qn t ln ar.args.length 3 b 0 true .none .none (.ref (b+2)),go (b+3)]
    else [tupO (strsFrom vs (t+3)),tupO [],fo,codeO nm qn t ln ar.args.length 3 b vs.length true (.ref (b+2)) (.ref (b+3)) (.ref (b+4)),go (b+5)]
structure TS where
  n:Nat
  t:Nat
  mn:Value
  es:List (Str × Nat × Value)
  fs:List Value
  os:List Obj
noncomputable def TS.fn (s:TS) (nm:Str) (ar:Arguments) (body:List Stmt) (sc:Scope) (ln:Nat):TS :=
  let bl:=fnBlock s.n s.t s.mn nm nm ar body sc ln
  let k:=bl.length
  let m:=(locs sc).length
  ⟨s.n+k,s.t+6+m,s.mn,s.es ++ [(nm,s.t+5+m,.ref (s.n+k - 1))],s.fs ++ [.int ln 0,.int 0 0,.ref (s.n+k - 2)],s.os ++ bl⟩
noncomputable def dicO (P:Params) (es:List (Str × Nat × Value)) (e:Nat):Obj:={ cls:=.type "dict",data:=.dict (Array.mk (es.map fun x=>⟨PyData.keyHash P x.1,.str x.1 x.2.1,x.2.2⟩)) e }
noncomputable def frmO (c l:Nat) (mn:Value):Obj:={ cls:=.type "frame",slots:=Array.mk [some (.ref c),some (.ref 3),some (.ref l),none,some mn,none,some (.ref 0)] }
noncomputable def getsO (x:String) (t:Nat) (g s:Value):Obj:=fieldsO (.type "getset_descriptor") [sv x t,.ref 181,g,s]
noncomputable def bltO (f:String) (v:Value):Obj:=fieldsO (.type "builtin_function_or_method") [.builtin f,v]
noncomputable def clsObj:Obj:=excClassObj "ObjectFile" "ObjectFile" 181 180 [.type "object"] [.type "object"] true [] [] false none none none none (some (sv "ObjectFile" 399)) (some (sv "ObjectFile" 407)) (some (.bool true)) "object.__new__"
noncomputable def clsBlock (P:Params) (mn:Value) (ar:Arguments) (body:List Stmt) (sc:Scope):List Obj :=
  [tupO [],bltO "type.__prepare__" (.type "type"),dicO P [("__module__",406,mn),("__qualname__",408,sv "ObjectFile" 407),("__firstlineno__",410,.int 162 409),("__init__",419,.ref 178),("__static_attributes__",433,.ref 179)] 5,
   tupO [],fieldsO .none [.int 164 0,.int 4 0,.ref 177],codeO "ObjectFile" "ObjectFile" 401 162 0 0 168 0 false .none .none .none,frmO 170 167 mn] ++ fnBlock 172 411 mn "__init__" "ObjectFile.__init__" ar body sc 164 ++
  [tupO (strsFrom ["body", "commands", "data_fixups", "data_size", "entries", "fixups", "imports", "key", "maps", "name", "pointers", "rows", "words"] 420),
   dicO P [("__module__",406,mn),("__firstlineno__",410,.int 162 409),("__init__",419,.ref 178),("__static_attributes__",433,.ref 179),("__dict__",435,.ref 182),("__weakref__",437,.ref 183),("__doc__",438,.none)] 4,
   clsObj,getsO "__dict__" 434 (.builtin "function.__dict__") (.builtin "function.__dict__#set"),getsO "__weakref__" 436 (.builtin "ExceptionGroup.__weakref__") .none,fieldsO (.type "super") [.ref 181,.ref 181,.ref 181],bltO "object.__init_subclass__" (.ref 181)]
noncomputable def TS.const (s:TS) (x:Str) (d:Nat) (i:Int):TS:={ s with t:=s.t+d+2,es:=s.es ++ [(x,s.t+d+1,.int i (s.t+d))] }
noncomputable def topS (P:Params) (s:TS):Stmt->TS
  | .FunctionDef nm ar b _ _ _ sc _ _ p=>s.fn nm ar b sc p.line
  | .Assign [.Name x _] (.Constant (.int i) _ _) _=>s.const x 0 i
  | .Assign _ (.Constant (.str m) _ _) _=>{ s with mn:=.str m s.t,t:=s.t+2 }
  | .Assign [.Name x _] _ _=>bif x == "EVERYTHING" then s.const x 4 262143 else s.const x 7 26624
  | .ClassDef _ _ _ (.FunctionDef _ ar b _ _ _ sc _ _ _::_) _ _ _ _ _ _ _=>⟨186,441,s.mn,s.es ++ [(Str.ofString "ObjectFile",440,Value.ref 181)],s.fs ++ [.int 162 0,.int 0 0,.ref 170],s.os ++ clsBlock P s.mn ar b sc⟩
  | _=>s
noncomputable def ts0:TS:=⟨15,187,sv "__main__" 164,[],[],[]⟩
noncomputable def topE:List (Str × Nat × Value):=[("__doc__",166,.none),("__package__",167,.none),("__loader__",168,.builtin "__main__.__loader__#opaque"),("__spec__",169,.none),("__annotations__",170,.ref 6),("__builtins__",171,.ref 4),("__file__",173,fileV 172),("__cached__",174,.none)]
noncomputable def TS.objs (s:TS) (P:Params) (b1 b2:List Obj):List Obj:=b1 ++ dicO P (("__name__",165,s.mn)::(topE ++ s.es)) (9+s.es.length)::(b2 ++ tupO []::fieldsO .none s.fs::codeO "<module>" "<module>" 182 1 0 0 11 0 false .none .none .none::frmO 13 3 (sv "__main__" 164)::s.os)
noncomputable def TS.heap (s:TS) (P:Params):Heap:=⟨Array.mk (s.objs P [boot_o_0 P,boot_o_1 P,boot_o_2 P] [boot_o_4 P,boot_o_5 P,boot_o_6 P,boot_o_7 P,boot_o_8 P,boot_o_9 P,boot_o_10 P]),(boot_heap P).life⟩
noncomputable def tsAt (P:Params) (k:Nat):TS:=(prog.main.body.take k).foldl (topS P) ts0
noncomputable def bodyP:List Stmt:=behindTheImports prog
noncomputable def env0:PySem.Env:={ scope:=prog.main.scope,locals:=mainNs,globals:=mainNs,cells:=[],code:=.ref 13,frame:=some 14 }
noncomputable def code0:Code:=.body bodyP env0
noncomputable def endPos:Stmt->Pos
  | .Assign (t::_) _ _=>t.pos
  | s=>s.pos
noncomputable def posK:Nat->Pos
  | 0=>default
  | k+1=>((bodyP[k]?).map endPos).getD default
noncomputable def stK (w:World) (os:OsState) (k:Nat):Shared:=⟨(tsAt w.params k).heap w.params,Array.mk [],boot_drawn,(tsAt w.params k).t,os⟩
noncomputable def annV:Option Value:=some (.ref 6)
noncomputable abbrev runTo (w:World) (N:Nat) (s:Shared) (t:Thread):Option Shared:=topRun treeTable prog w 11 annV N s t
noncomputable abbrev atK (k:Nat) (l:List Stmt):Thread:=restOf l env0 code0 (posK k) [topFrame default]
noncomputable def Seg (k m:Nat):Prop:=∀ (w:World) (os:OsState),segRun treeTable prog w 11 annV 1 500 (stK w os k) (piecesOf ((bodyP.drop k).take m) env0 code0 (posK k) [topFrame default])=some (.next,stK w os (k+m),code0,posK (k+m))
theorem seg_step {k m N:Nat} {w:World} {os:OsState} {r:Shared} (h:Seg k m) (z:runTo w N (stK w os (k+m)) (atK (k+m) (bodyP.drop (k+m)))=some r):runTo w (500+N) (stK w os k) (atK k (bodyP.drop k))=some r:=by
  have e:=piece_app (h w os) z
  rw [<- List.drop_drop,List.take_append_drop] at e
  exact e
theorem seg1:Seg 0 16:=fun w os=>by kernel_rfl
theorem seg2:Seg 16 12:=fun w os=>by kernel_rfl
theorem seg3:Seg 28 7:=fun w os=>by kernel_rfl
theorem seg4:Seg 35 12:=fun w os=>by kernel_rfl
theorem seg5:Seg 47 12:=fun w os=>by kernel_rfl
theorem seg6:Seg 59 12:=fun w os=>by kernel_rfl
theorem run_pre (w:World) (os:OsState):topGo treeTable prog w 11 annV 12 ⟨boot_heap w.params,Array.mk [],boot_drawn,boot_toks,os⟩ (topStub prog)=some (stK w os 0,⟨denote treeTable code0,code0,default,[topFrame default]⟩):=by kernel_rfl
theorem run_block (w:World) (os:OsState):segRun treeTable prog w 11 annV 1 1 (stK w os 0) (blockOf bodyP env0 code0 default [topFrame default])=some (.next,stK w os 0,code0,default):=by kernel_rfl
theorem run_fin (w:World) (os:OsState):runTo w 10 (stK w os 71) (atK 71 (bodyP.drop 71))=some (stK w os 71):=by kernel_rfl
theorem run_all (w:World) (os:OsState):runTo w (12+(1+(500+(500+(500+(500+(500+(500+10)))))))) ⟨boot_heap w.params,Array.mk [],boot_drawn,boot_toks,os⟩ (topStub prog)=some (stK w os 71) :=
  go_top (run_pre w os) (piece_block (run_block w os) (seg_step (k:=0) seg1 (seg_step seg2 (seg_step seg3 (seg_step seg4 (seg_step seg5 (seg_step seg6 (run_fin w os))))))))
end Mine
end
section
open PySem PySem.W PyProof.Rows
set_option maxRecDepth 100000
set_option maxHeartbeats 8000000
namespace Mine
noncomputable def globTab:List (String × Int):=[("LINK",15),("END_OF_COMMAND",9),("FRAME",11),("STATIC",13),("STACK",14),("HIGH",16),("FLAGS",17),("EVERYTHING",262143),("HELD",26624),("ROUNDS",10)]
noncomputable def biNames:List String:=["len", "range", "sorted", "list", "dict", "max", "min", "sum"]
noncomputable def bk {β α:Type} (mk:α->β):Option α->β->β
  | some a,_=>mk a
  | none,e=>e
structure Vw {β α:Type} (mk:α->β) (e:β) where
  a:α
  e:e=mk a
noncomputable def vw {β α:Type} {mk:α->β} {i:Nat} (idx:β->Nat) (el:∀ e,idx e=i->Vw mk e) (e:β):Option α:=if h:idx e=i then some (el e h).a else none
theorem vw_b {β α:Type} {mk:α->β} {i:Nat} {idx:β->Nat} {el:∀ e,idx e=i->Vw mk e} {e:β}:e=bk mk (vw idx el e) e:=by
  unfold vw
  by_cases h:idx e=i
  · rw [dif_pos h]; exact (el e h).e
  · rw [dif_neg h]; rfl
noncomputable def vRef:Value->Option Addr:=vw (mk:=Value.ref) (i:=10) Value.ctorIdx fun e h=>Value.ref.elim (motive:=Vw Value.ref) e h fun a=>⟨a,rfl⟩
theorem vRef_b (e:Value):e=bk Value.ref (vRef e) e:=vw_b
noncomputable def vInt:Value->Option (Int × Tok):=vw (mk:=fun t:Int × Tok=>Value.int t.1 t.2) (i:=4) Value.ctorIdx fun e h=>Value.int.elim (motive:=Vw fun t:Int × Tok=>Value.int t.1 t.2) e h fun i t=>⟨(i,t),rfl⟩
theorem vInt_b (e:Value):e=bk (fun t:Int × Tok=>Value.int t.1 t.2) (vInt e) e:=vw_b
noncomputable def vStr:Value->Option (Str × Tok):=vw (mk:=fun t:Str × Tok=>Value.str t.1 t.2) (i:=6) Value.ctorIdx fun e h=>Value.str.elim (motive:=Vw fun t:Str × Tok=>Value.str t.1 t.2) e h fun i t=>⟨(i,t),rfl⟩
theorem vStr_b (e:Value):e=bk (fun t:Str × Tok=>Value.str t.1 t.2) (vStr e) e:=vw_b
noncomputable def vType:Value->Option String:=vw (mk:=Value.type) (i:=8) Value.ctorIdx fun e h=>Value.type.elim (motive:=Vw Value.type) e h fun a=>⟨a,rfl⟩
theorem vType_b (e:Value):e=bk Value.type (vType e) e:=vw_b
noncomputable def vNone:Value->Option Unit:=vw (mk:=fun uu=>Value.none) (i:=0) Value.ctorIdx fun e h=>Value.none.elim (motive:=Vw fun _:Unit=>Value.none) e h ⟨(),rfl⟩
theorem vNone_b (e:Value):e=bk (fun uu=>Value.none) (vNone e) e:=vw_b
noncomputable def vStmts:FuncBody->Option (List Stmt):=vw (mk:=FuncBody.stmts) (i:=0) FuncBody.ctorIdx fun e h=>FuncBody.stmts.elim (motive:=Vw FuncBody.stmts) e h fun a=>⟨a,rfl⟩
theorem vStmts_b (e:FuncBody):e=bk FuncBody.stmts (vStmts e) e:=vw_b
noncomputable def vFunc:Data->Option FuncData:=vw (mk:=Data.func) (i:=7) Data.ctorIdx fun e h=>Data.func.elim (motive:=Vw Data.func) e h fun a=>⟨a,rfl⟩
theorem vFunc_b (e:Data):e=bk Data.func (vFunc e) e:=vw_b
noncomputable def vDict:Data->Option (Array DictEntry × Nat):=vw (mk:=fun t:Array DictEntry × Nat=>Data.dict t.1 t.2) (i:=3) Data.ctorIdx fun e h=>Data.dict.elim (motive:=Vw fun t:Array DictEntry × Nat=>Data.dict t.1 t.2) e h fun i t=>⟨(i,t),rfl⟩
theorem vDict_b (e:Data):e=bk (fun t:Array DictEntry × Nat=>Data.dict t.1 t.2) (vDict e) e:=vw_b
noncomputable def vCls:Data->Option ClassData:=vw (mk:=Data.cls) (i:=8) Data.ctorIdx fun e h=>Data.cls.elim (motive:=Vw Data.cls) e h fun a=>⟨a,rfl⟩
theorem vw_some {β α:Type} {mk:α->β} {as:β->Option α} (hb:∀ e,e=bk mk (as e) e) {e:β} {a:α} (h:as e=some a):e=mk a:=(hb e).trans (congrArg (fun o=>bk mk o e) h)
noncomputable def initN:String := "__init__"
noncomputable abbrev FnS:=Arguments × List Stmt × Scope × Bool
noncomputable def nsE (h:Heap) (ns:Addr):Option (Array DictEntry):=(h.get? ns).bind fun o=>(vDict o.data).map (·.1)
noncomputable def nsH (h:Heap) (ns:Addr) (x:String):Option Value:=(nsE h ns).bind (nsFind · (Str.ofString x))
noncomputable def fdS (h:Heap) (t:String) (fd:FuncData):Option FnS:=(vStmts fd.body).bind fun b=>(vRef fd.code).bind fun c=>(h.get? c).map fun oc=>(fd.params,b,fd.scope,t == "function" && codeIn [(c,oc)] fd.code fd.qualname && fd.globals == mainGlobals && fd.closure.isEmpty && fd.builtins == builtinsNs && (vNone fd.defaults).isSome)
noncomputable def obS (h:Heap) (o:Obj):Option FnS:=(vType o.cls).bind fun t=>(vFunc o.data).bind (fdS h t)
noncomputable def valS (h:Heap) (v:Option Value):Option FnS:=v.bind fun v=>(vRef v).bind fun a=>(h.get? a).bind (obS h)
noncomputable def see (h:Heap) (N:Addr) (f:String):Option FnS:=valS h (bif f == initN then nsH h N initN else nsH h mainGlobals f)
noncomputable def hideL:List String:=["__setattr__", "__getattribute__", "name", "key", "imports", "rows", "data_size", "words", "data_fixups", "fixups", "entries", "pointers", "maps", "commands", "body"]
noncomputable def hides (h:Heap) (ns:Addr) (l:List String):Bool:=(nsE h ns).any fun es=>l.all fun x=>(nsFind es (Str.ofString x)).isNone
noncomputable def restOk (h:Heap) (C N:Addr):Bool:=globTab.all (fun p=>(nsH h mainGlobals p.1).any fun v=>(vInt v).any fun t=>t.1 == p.2) && hides h mainGlobals ("zip" :: biNames) && ((nsH h mainGlobals "ObjectFile").any fun v=>(vRef v).any (· == C)) &&
  hides h N hideL && (nsE h N).any fun es=>es.all fun e=>(vStr e.key).isSome
noncomputable def seenF (h:Heap):List (Option FnS) × Bool × Option Obj:=(fnsL.map fun p=>see h 180 p.1,restOk h 181 180,h.get? 181)
noncomputable def viewQ:Program:=view prog [70]
noncomputable def looseQ:List PySem.Str:=(prog.main.scope.names.map (·.1)).filter fun x=>x != PySem.Str.ofString "law" && x != PySem.Str.ofString "__name__"
noncomputable def defOf (x:String):List Stmt->Option FnS
  | []=>none
  | .FunctionDef n a b _ _ _ s _ _ _::r=>bif n == Str.ofString x then some (a,b,s,true) else defOf x r
  | .ClassDef _ _ _ (.FunctionDef n a b _ _ _ s _ _ _::_) _ _ _ _ _ _ _::r=>bif n == Str.ofString x then some (a,b,s,true) else defOf x r
  | _::r=>defOf x r
noncomputable def goodF:List (Option FnS) × Bool × Option Obj:=(fnsL.map fun p=>defOf p.1 prog.main.body,true,some clsObj)
noncomputable def topX (s:Shared):Bool:=xlAt viewQ [] s && recOk [] s
noncomputable def endH (P:Params):Heap:=(tsAt P 71).heap P
noncomputable def endS (w:World) (os:OsState):Shared:=⟨endH w.params,Array.mk [],boot_drawn,821,os⟩
theorem look_1 (w:World) (os:OsState):(staticsOk (importedModules prog.main.body) (boot_heap w.params) (endH w.params) && namesBound prog (endH w.params) && gensDone (endS w os) && laidKept (boot_heap w.params) (endH w.params))=true:=by kernel_rfl
theorem look_2 (w:World) (os:OsState):openSeen viewQ looseQ (importedModules prog.main.body) topX true (endS w os)=openGood viewQ looseQ:=by kernel_rfl
theorem look_3 (w:World):seenF (endH w.params)=goodF:=by kernel_rfl
theorem opening_plain:opening prog=plainProg prog.main.scope.names:=by kernel_rfl
theorem fence_plain (s:Shared):fenceModules? prog s=some s:=by kernel_rfl
theorem boot_size (w:World):((boot_heap w.params).isNs mainGlobals && (Array.mk []:Array GenState).size == 0,(boot_heap w.params).objs.size,(boot_heap w.params).nsMap mainGlobals "__annotations__")=(true,11,annV):=by kernel_rfl
theorem run_end (w:World) (os:OsState):topRun treeTable prog w 11 annV (12+(1+(500+(500+(500+(500+(500+(500+10)))))))) ⟨boot_heap w.params,Array.mk [],boot_drawn,boot_toks,os⟩ (topStub prog)=some ⟨endH w.params,Array.mk [],boot_drawn,821,os⟩ :=
  (run_all w os).trans (congrArg some (show stK w os 71=endS w os by kernel_rfl))
theorem hl1:LeftO prog viewQ looseQ topX (fun s=>seenF s.heap) (fun uu=>goodF) 4432 :=
  LeftO.of_pieces (H₁:=endH) (boot_open opening_plain rfl fence_plain) boot_size run_end rfl fun w=>funext fun os=>Prod.ext (look_1 w os) (Prod.ext (look_2 w os) (look_3 w))
end Mine
end
section
namespace Mine.Wk
open PySem
noncomputable def Mono (C:Cl):Prop:=∀ f vs H Q Q',(∀ v H',Q v H'->Q' v H')->C f vs H Q->C f vs H Q'
noncomputable def EMono {α:Type} (T:Env->AH->(α->AH->Prop)->Prop):Prop:=∀ ρ H Q Q',(∀ v H',Q v H'->Q' v H')->T ρ H Q->T ρ H Q'
noncomputable def TMono (T:Tr):Prop:=∀ ρ H (Q Q':PO),(∀ o ρ' H',Q o ρ' H'->Q' o ρ' H')->T ρ H Q->T ρ H Q'
theorem retR_mono {r:Rs} {H:AH} {Q Q':V->AH->Prop} (q:∀ v H',Q v H'->Q' v H') (h:retR r H Q):retR r H Q':=by
  rcases r with v | o
  · exact q _ _ h
  · exact fun a ha=>q _ _ (h a ha)
theorem mR {K K':Rs->Prop} (h:∀ r,K r->K' r):∀ {o:Option Rs},(match o with | some r=>K r | none=>False)->match o with | some r=>K' r | none=>False
  | some r,q=>h r q
  | none,q=>q
theorem mV {K K':V->Prop} (h:∀ r,K r->K' r):∀ {o:Option V},(match o with | some r=>K r | none=>False)->match o with | some r=>K' r | none=>False
  | some r,q=>h r q
  | none,q=>q
theorem mB {K K':Bool->Prop} (h:∀ r,K r->K' r):∀ {o:Option Bool},(match o with | some r=>K r | none=>False)->match o with | some r=>K' r | none=>False
  | some r,q=>h r q
  | none,q=>q
theorem mP {K K':V × AH->Prop} (h:∀ r,K r->K' r):∀ {o:Option (V × AH)},(match o with | some r=>K r | none=>False)->match o with | some r=>K' r | none=>False
  | some r,q=>h r q
  | none,q=>q
theorem mZ {K K':V × List V->Prop} (h:∀ r,K r->K' r):∀ {o:Option (V × List V)},(match o with | some r=>K r | none=>False)->match o with | some r=>K' r | none=>False
  | some r,q=>h r q
  | none,q=>q
theorem mH {K K':AH->Prop} (h:∀ r,K r->K' r):∀ {o:Option AH},(match o with | some r=>K r | none=>False)->match o with | some r=>K' r | none=>False
  | some r,q=>h r q
  | none,q=>q
theorem mL {K K':List V->Prop} (h:∀ r,K r->K' r):∀ {o:Option (List V)},(match o with | some r=>K r | none=>False)->match o with | some r=>K' r | none=>False
  | some r,q=>h r q
  | none,q=>q
theorem mEn {K K':Env->Prop} (h:∀ r,K r->K' r):∀ {o:Option Env},(match o with | none=>False | some r=>K r)->match o with | none=>False | some r=>K' r
  | some r,q=>h r q
  | none,q=>q
theorem mLN {K K':List V->Prop} {N N':Prop} (h:∀ r,K r->K' r) (n:N->N'):∀ {o:Option (List V)},(match o with | some r=>K r | none=>N)->match o with | some r=>K' r | none=>N'
  | some r,q=>h r q
  | none,q=>n q
theorem mTF {A B A' B':Prop} (h:A->A') (k:B->B'):∀ {o:Option Bool},(match o with | some true=>A | some false=>B | none=>False)->match o with | some true=>A' | some false=>B' | none=>False:=by
  rintro (uu | uu | uu) q
  · exact q
  · exact k q
  · exact h q
theorem mI {K K':Int->Prop} (h:∀ r,K r->K' r):∀ {v:V},(match v with | .int i=>K i | _=>False)->match v with | .int i=>K' i | _=>False:=by
  rintro ⟨⟩ q <;> first | exact q | exact h _ q
theorem mN {A A':Prop} (h:A->A'):∀ {v:V},(match v with | .none=>A | _=>False)->match v with | .none=>A' | _=>False:=by
  rintro ⟨⟩ q <;> first | exact q | exact h q
theorem mOI {K K':Int->Prop} (h:∀ r,K r->K' r):∀ {v:Option V},(match v with | some (.int i)=>K i | _=>False)->match v with | some (.int i)=>K' i | _=>False:=by
  rintro (uu | v) q
  · exact q
  · rcases v with ⟨⟩ <;> first | exact q | exact h _ q
theorem mC {A B A' B':Prop} (h:A->A') (k:B->B'):∀ {b:Bool},(match b with | true=>A | false=>B)->match b with | true=>A' | false=>B':=by
  rintro (uu | uu) q
  · exact k q
  · exact h q
theorem mO {A A':Prop} {B B':V->Prop} (h:A->A') (k:∀ v,B v->B' v):∀ {o:Out},(match o with | .next=>A | .ret v=>B v)->match o with | .next=>A' | .ret v=>B' v:=by
  rintro (uu | v) q
  · exact h q
  · exact k v q
theorem compT_mono {tg:Tgt} {T:Env->AH->(Bool->AH->Prop)->Prop} {Te:Env->AH->(V->AH->Prop)->Prop} {it:V} {all:List V} (hT:EMono T) (hE:EMono Te) :
    ∀ (xs:List V) ρ H acc Q Q',(∀ v H',Q v H'->Q' v H')->compT tg T Te it all xs ρ H acc Q->compT tg T Te it all xs ρ H acc Q'
  | [],ρ,H,acc,Q,Q',q,h=>⟨h.1,q _ _ h.2⟩
  | x::xs,ρ,H,acc,Q,Q',q,h=>⟨h.1,mEn (fun ρ' h=>hT _ _ _ _ (fun b H₁ z=>mC (fun z=>hE _ _ _ _ (fun v H₂ z=>⟨z.1,compT_mono hT hE xs _ _ _ _ _ q z.2⟩) z) (compT_mono hT hE xs _ _ _ _ _ q) z) h) h.2⟩
theorem dcompT_mono {tg:Tgt} {T Te:Env->AH->(V->AH->Prop)->Prop} {it:V} {all:List V} (hT:EMono T) (hE:EMono Te) :
    ∀ (xs:List V) ρ H acc Q Q',(∀ v H',Q v H'->Q' v H')->dcompT tg T Te it all xs ρ H acc Q->dcompT tg T Te it all xs ρ H acc Q'
  | [],ρ,H,acc,Q,Q',q,h=>⟨h.1,q _ _ h.2⟩
  | x::xs,ρ,H,acc,Q,Q',q,h=>⟨h.1,mEn (fun ρ' h=>hT _ _ _ _ (fun kv H₁ z=>hE _ _ _ _ (fun v H₂ z=>mI (fun i z=>⟨z.1,dcompT_mono hT hE xs _ _ _ _ _ q z.2⟩) z) z) h) h.2⟩
theorem forT_mono {tg:Tgt} {T:Tr} (hT:TMono T) {it:V} {all:List V}:∀ (xs:List V) ρ H (Q Q':PO),(∀ o ρ' H',Q o ρ' H'->Q' o ρ' H')->forT tg T it all xs ρ H Q->forT tg T it all xs ρ H Q'
  | [],ρ,H,Q,Q',q,h=>⟨h.1,q _ _ _ h.2⟩
  | x::xs,ρ,H,Q,Q',q,h=>⟨h.1,mEn (fun ρ' h=>hT _ _ _ _ (fun o ρ' H' z=>mO (forT_mono hT xs _ _ _ _ q) (fun v=>q _ _ _) z) h) h.2⟩
theorem whileT_mono {t:Env->AH->(Bool->AH->Prop)->Prop} (ht:EMono t) {T:Tr} (hT:TMono T):∀ (n:Nat) ρ H (Q Q':PO),(∀ o ρ' H',Q o ρ' H'->Q' o ρ' H')->whileT t T n ρ H Q->whileT t T n ρ H Q'
  | 0,ρ,H,Q,Q',q,h=>h
  | n+1,ρ,H,Q,Q',q,h=>ht _ _ _ _ (fun b H₁ z=>by
    rcases b with uu | uu
    · exact q _ _ _ z
    · exact hT _ _ _ _ (fun o ρ' H' z=>mO (whileT_mono ht hT n _ _ _ _ q) (fun v=>q _ _ _) z) z) h
structure MX (C:Cl) (m:ME):Prop where
  e:EMono (wpE C m)
  t:EMono (wpT C m)
structure ML (C:Cl) (ms:List ME):Prop where
  es:EMono (wpEs C ms)
  an:EMono (wpAnd C ms)
  or:EMono (wpOr C ms)
  c:∀ x ops,EMono (wpC C x ops ms)
  at_:EMono (wpAndT C ms)
  ot:EMono (wpOrT C ms)
  fs:EMono (wpIfs C ms)
variable {C:Cl}
theorem fF {α:Type} {T:Env->AH->(α->AH->Prop)->Prop} (h:∀ ρ H Q,T ρ H Q=False):EMono T:=fun ρ H Q Q' uu z=>(h ρ H Q ▸ z:False).elim
theorem nt {m:ME} (e:EMono (wpE C m)) (h:∀ ρ H Q,wpT C m ρ H Q=False):MX C m:=⟨e,fF h⟩
theorem ml_nil:ML C []:=⟨fun uu uu uu uu q h=>q _ _ h,fF fun uu uu uu=>rfl,fF fun uu uu uu=>rfl,fun x ops=>by
  rcases ops with uu | ⟨uu,uu | uu⟩ <;> exact fF fun uu uu uu=>rfl,fun uu uu uu uu q h=>q _ _ h,fun uu uu uu uu q h=>q _ _ h,fun uu uu uu uu q h=>q _ _ h⟩
theorem ml_cons {m:ME} {ms:List ME} (a:MX C m) (l:ML C ms):ML C (m::ms) where
  es ρ H Q Q' q h:=a.e _ _ _ _ (fun v H₁ h=>l.es _ _ _ _ (fun vs H₂ h=>q _ _ h) h) h
  an:=by
    rcases ms with uu | ⟨n,ms⟩
    · exact a.e
    · exact fun ρ H Q Q' q h=>a.e _ _ _ _ (fun v H₁ h=>mTF (l.an _ _ _ _ q) (q _ _) h) h
  or:=by
    rcases ms with uu | ⟨n,ms⟩
    · exact a.e
    · exact fun ρ H Q Q' q h=>a.e _ _ _ _ (fun v H₁ h=>mTF (q _ _) (l.or _ _ _ _ q) h) h
  c x ops:=by
    rcases ops with uu | ⟨op,uu | ⟨op2,ops⟩⟩ <;> rcases ms with uu | ⟨n,ms⟩ <;> try exact fF fun uu uu uu=>rfl
    · exact fun ρ H Q Q' q h=>a.e _ _ _ _ (fun y H₁ h=>mB (fun b=>q _ _) h) h
    · exact fun ρ H Q Q' q h=>a.e _ _ _ _ (fun y H₁ h=>mTF (l.c y _ _ _ _ _ q) (q _ _) h) h
  at_ ρ H Q Q' q h:=a.t _ _ _ _ (fun b H₁ h=>mC (l.at_ _ _ _ _ q) (q _ _) h) h
  ot ρ H Q Q' q h:=a.t _ _ _ _ (fun b H₁ h=>mC (q _ _) (l.ot _ _ _ _ q) h) h
  fs ρ H Q Q' q h:=a.t _ _ _ _ (fun b H₁ h=>mC (l.fs _ _ _ _ q) (q _ _) h) h
theorem mx_var (i:Nat):MX C (.var i):=⟨fun ρ H Q Q' q h=>mV (fun v=>q v H) h,fun ρ H Q Q' q h=>mV (fun v h=>mB (fun b=>q b H) h) h⟩
theorem mx_bin (op:BOp) {a b:ME} (x:MX C a) (y:MX C b):MX C (.bin op a b):=nt (fun ρ H Q Q' q h=>x.e _ _ _ _ (fun x H₁ h=>y.e _ _ _ _ (fun y H₂ h=>mR (fun r=>retR_mono q) h) h) h) fun uu uu uu=>rfl
theorem mx_neg {a:ME} (x:MX C a):MX C (.neg a):=nt (fun ρ H Q Q' q h=>x.e _ _ _ _ (fun x H₁ h=>mI (fun i=>q _ _) h) h) fun uu uu uu=>rfl
theorem mx_inv {a:ME} (x:MX C a):MX C (.inv a):=nt (fun ρ H Q Q' q h=>x.e _ _ _ _ (fun x H₁ h=>mI (fun i=>q _ _) h) h) fun uu uu uu=>rfl
theorem mx_not {a:ME} (x:MX C a):MX C (.not a):=⟨fun ρ H Q Q' q h=>x.e _ _ _ _ (fun x H₁ h=>mB (fun b=>q _ _) h) h,fun ρ H Q Q' q h=>x.t _ _ _ _ (fun b H₁=>q _ _) h⟩
theorem mx_cmp (ops:List COp) {a:ME} {es:List ME} (x:MX C a) (y:ML C es):MX C (.cmp a ops es):=⟨fun ρ H Q Q' q h=>x.e _ _ _ _ (fun v H₁ h=>y.c v ops _ _ _ _ (fun b H₂=>q _ _) h) h,fun ρ H Q Q' q h=>x.e _ _ _ _ (fun v H₁ h=>y.c v ops _ _ _ _ q h) h⟩
theorem mx_ite {t a b:ME} (z:MX C t) (x:MX C a) (y:MX C b):MX C (.ite t a b):=nt (fun ρ H Q Q' q h=>z.t _ _ _ _ (fun c H₁ h=>mC (x.e _ _ _ _ q) (y.e _ _ _ _ q) h) h) fun uu uu uu=>rfl
theorem mx_meth (m:String) {o:ME} {es:List ME} (x:MX C o) (y:ML C es):MX C (.meth o m es):=nt (fun ρ H Q Q' q h=>x.e _ _ _ _ (fun v H₁ h=>mC (fun h=>y.es _ _ _ _ (fun vs H₂ h=>mP (fun p=>q _ _) h) h) id h) h) fun uu uu uu=>rfl
theorem mx_sub {a b:ME} (x:MX C a) (y:MX C b):MX C (.sub a b):=⟨fun ρ H Q Q' q h=>x.e _ _ _ _ (fun x H₁ h=>y.e _ _ _ _ (fun y H₂ h=>mV (fun r=>q _ _) h) h) h,fun ρ H Q Q' q h=>x.e _ _ _ _ (fun x H₁ h=>y.e _ _ _ _ (fun y H₂ h=>mV (fun r h=>mB (fun b=>q _ _) h) h) h) h⟩
theorem mx_slice {a b:ME} (x:MX C a) (y:MX C b):MX C (.sliceTo a b):=nt (fun ρ H Q Q' q h=>x.e _ _ _ _ (fun x H₁ h=>y.e _ _ _ _ (fun y H₂ h=>mR (fun r=>retR_mono q) h) h) h) fun uu uu uu=>rfl
theorem mx_comp (fr:List (Option Nat)) (tg:Tgt) {it el:ME} {ifs:List ME} (x:MX C it) (y:ML C ifs) (z:MX C el):MX C (.comp fr tg it ifs el):=nt (fun ρ H Q Q' q h=>x.e _ _ _ _ (fun v H₁ h=>mL (fun vs=>compT_mono y.fs z.e _ _ _ _ _ _ fun acc H₂ h a ha=>q _ _ (h a ha)) h) h) fun uu uu uu=>rfl
theorem mx_dcomp (fr:List (Option Nat)) (tg:Tgt) {it k v:ME} (x:MX C it) (y:MX C k) (z:MX C v):MX C (.dcomp fr tg it k v):=nt (fun ρ H Q Q' q h=>x.e _ _ _ _ (fun v H₁ h=>mL (fun vs=>dcompT_mono y.e z.e _ _ _ _ _ _ fun acc H₂ h a ha=>q _ _ (h a ha)) h) h) fun uu uu uu=>rfl
section
variable (hC:Mono C)
include hC
theorem mx_call (f:String) {es:List ME} (y:ML C es):MX C (.call f es):=⟨fun ρ H Q Q' q h=>y.es _ _ _ _ (fun vs H₁ h=>hC _ _ _ _ _ q h) h,fun ρ H Q Q' q h=>y.es _ _ _ _ (fun vs H₁ h=>hC _ _ _ _ _ (fun v H₂ h=>mB (fun b=>q _ _) h) h) h⟩
theorem mx_new {es:List ME} (y:ML C es):MX C (.new es):=nt (fun ρ H Q Q' q h=>y.es _ _ _ _ (fun vs H₁ h dx a h1 h2 h3=>hC _ _ _ _ _ (fun v H₂ h=>mN (q _ _) h) (h dx a h1 h2 h3)) h) fun uu uu uu=>rfl
theorem mx (m:ME):MX C m :=
  ME.rec (motive_1:=MX C) (motive_2:=ML C) mx_var (fun uu=>nt (fun uu uu uu uu q h=>q _ _ h) fun uu uu uu=>rfl) (fun uu=>nt (fun uu uu uu uu q h=>q _ _ h) fun uu uu uu=>rfl) (fun uu=>nt (fun uu uu uu uu q h=>q _ _ h) fun uu uu uu=>rfl) (nt (fun uu uu uu uu q h=>q _ _ h) fun uu uu uu=>rfl)
    (fun uu uu=>nt (fun uu uu uu uu q h=>q _ _ h) fun uu uu uu=>rfl) (fun op uu uu=>mx_bin op) (fun uu=>mx_neg) (fun uu=>mx_inv) (fun uu=>mx_not) (fun uu y=>⟨y.an,y.at_⟩) (fun uu y=>⟨y.or,y.ot⟩) (fun uu ops uu=>mx_cmp ops) (fun uu uu uu=>mx_ite) (fun f uu=>mx_call hC f) (fun uu=>mx_new hC)
    (fun f uu y=>nt (fun ρ H Q Q' q h=>y.es _ _ _ _ (fun vs H₁ h=>mR (fun r=>retR_mono q) h) h) fun uu uu uu=>rfl) (fun uu m uu=>mx_meth m) (fun uu x y=>nt (fun ρ H Q Q' q h=>y.e _ _ _ _ (fun v H₁ h=>mV (fun r=>q _ _) h) h) fun uu uu uu=>rfl) (fun uu uu=>mx_sub) (fun uu uu=>mx_slice)
    (fun uu y=>nt (fun ρ H Q Q' q h=>y.es _ _ _ _ (fun vs H₁ h a ha=>q _ _ (h a ha)) h) fun uu uu uu=>rfl) (fun uu y=>nt (fun ρ H Q Q' q h=>y.es _ _ _ _ (fun vs H₁=>q _ _) h) fun uu uu uu=>rfl) (fun ks uu y=>nt (fun ρ H Q Q' q h=>y.es _ _ _ _ (fun vs H₁ h a ha=>q _ _ (h a ha)) h) fun uu uu uu=>rfl)
    (fun fr tg uu uu uu=>mx_comp fr tg) (fun fr tg uu uu uu=>mx_dcomp fr tg) ml_nil (fun uu uu=>ml_cons) m
theorem ml:∀ ms:List ME,ML C ms
  | []=>ml_nil
  | m::ms=>ml_cons (mx hC m) (ml ms)
theorem wpE_mono (m:ME):EMono (wpE C m):=(mx hC m).e
theorem wpT_mono (m:ME):EMono (wpT C m):=(mx hC m).t
theorem wpEs_mono (ms:List ME):EMono (wpEs C ms):=(ml hC ms).es
theorem wpIfs_mono (ms:List ME):EMono (wpIfs C ms):=(ml hC ms).fs
theorem wpTs_mono:∀ (ts:List MT) vs ρ H (Q Q':Env->AH->Prop),(∀ v H',Q v H'->Q' v H')->wpTs C ts vs ρ H Q->wpTs C ts vs ρ H Q'
  | [],[],ρ,H,Q,Q',q,h=>q _ _ h
  | [],_::_,ρ,H,Q,Q',q,h=>h
  | .var i::ts,[],ρ,H,Q,Q',q,h=>h
  | .sub o i::ts,[],ρ,H,Q,Q',q,h=>h
  | .var i::ts,v::vs,ρ,H,Q,Q',q,h=>wpTs_mono ts vs _ _ _ _ q h
  | .sub o i::ts,v::vs,ρ,H,Q,Q',q,h=>wpE_mono hC o _ _ _ _ (fun x H₁ h=>wpE_mono hC i _ _ _ _ (fun y H₂ h=>mH (fun H₃=>wpTs_mono ts vs _ _ _ _ q) h) h) h
theorem wpS_mono (m:MS):TMono (wpS C m) :=
  MS.rec (motive_1:=fun m=>TMono (wpS C m)) (motive_2:=fun ms=>TMono (wpSs C ms))
    (fun i e ρ H Q Q' q h=>wpE_mono hC e _ _ _ _ (fun v H₁=>q _ _ _) h)
    (fun o x e ρ H Q Q' q h=>wpE_mono hC e _ _ _ _ (fun v H₁ h=>wpE_mono hC o _ _ _ _ (fun ov H₂ h=>mH (fun H₃=>q _ _ _) h) h) h)
    (fun o i e ρ H Q Q' q h=>wpE_mono hC e _ _ _ _ (fun v H₁ h=>wpE_mono hC o _ _ _ _ (fun ov H₂ h=>wpE_mono hC i _ _ _ _ (fun iv H₃ h=>mH (fun H₄=>q _ _ _) h) h) h) h)
    (fun ts e ρ H Q Q' q h=>wpE_mono hC e _ _ _ _ (fun v H₁ h=>mL (fun vs=>wpTs_mono hC ts _ _ _ _ _ fun ρ₁ H₂=>q _ _ _) h) h)
    (fun i e ρ H Q Q' q h=>mOI (fun a h=>wpE_mono hC e _ _ _ _ (fun v H₁ h=>mI (fun b=>q _ _ _) h) h) h)
    (fun o i e ρ H Q Q' q h=>wpE_mono hC o _ _ _ _ (fun ov H₁ h=>wpE_mono hC i _ _ _ _ (fun iv H₂ h=>mOI (fun a h=>wpE_mono hC e _ _ _ _ (fun v H₃ h=>mI (fun b h=>mH (fun H₄=>q _ _ _) h) h) h) h) h) h)
    (fun e ρ H Q Q' q h=>wpE_mono hC e _ _ _ _ (fun v H₁=>q _ _ _) h)
    (fun e ρ H Q Q' q h=>wpE_mono hC e _ _ _ _ (fun v H₁=>q _ _ _) h)
    (fun t a b x y ρ H Q Q' q h=>wpT_mono hC t _ _ _ _ (fun c H₁ h=>mC (x _ _ _ _ q) (y _ _ _ _ q) h) h)
    (fun t b x ρ H Q Q' q h=>h.elim fun n h=>⟨n,whileT_mono (wpT_mono hC t) x n _ _ _ _ q h⟩)
    (fun tg it b x ρ H Q Q' q h=>wpE_mono hC it _ _ _ _ (fun v H₁ h=>mLN (fun vs=>forT_mono x _ _ _ _ _ fun o ρ' H'=>q _ _ _) (fun h=>mL (fun vs=>forT_mono x _ _ _ _ _ q) h) h) h)
    (fun tg es b x ρ H Q Q' q h=>wpEs_mono hC es _ _ _ _ (fun vs H₁ h=>mZ (fun p=>forT_mono x _ _ _ _ _ q) h) h)
    (fun ρ H Q Q' q h=>q _ _ _ h)
    (fun m ms x y ρ H Q Q' q h=>x _ _ _ _ (fun o ρ₁ H₁ h=>mO (y _ _ _ _ q) (fun v=>q _ _ _) h) h) m
theorem wpSs_mono:∀ ms:List MS,TMono (wpSs C ms)
  | [],ρ,H,Q,Q',q,h=>q _ _ _ h
  | m::ms,ρ,H,Q,Q',q,h=>wpS_mono hC m _ _ _ _ (fun o ρ₁ H₁ h=>mO (wpSs_mono ms _ _ _ _ q) (fun v=>q _ _ _) h) h
end
theorem optFn {K K':Fn->Prop} (h:∀ r,K r->K' r):∀ {o:Option Fn},(match o with | none=>False | some r=>K r)->match o with | none=>False | some r=>K' r
  | some r,q=>h r q
  | none,q=>q
theorem callN_mono (fns:String->Option Fn):∀ n,Mono (callN fns n)
  | 0,f,vs,H,Q,Q',q,h=>h
  | n+1,f,vs,H,Q,Q',q,h=>optFn (fun fn h=>⟨h.1,wpSs_mono (callN_mono fns n) _ _ _ _ _ (fun o ρ' H'=>q _ _) h.2⟩) h
end Mine.Wk
end
section
namespace Mine.Wk
open PySem
noncomputable abbrev CN (n:Nat):Cl:=callN fns n
theorem CN_mono {n:Nat} {f:String} {vs:List V} {H:AH} {Q Q':V->AH->Prop} (h:CN n f vs H Q) (q:∀ v H',Q v H'->Q' v H'):CN n f vs H Q':=callN_mono fns n f vs H Q Q' q h
theorem callN_of {n:Nat} {f:String} {fn:Fn} {vs:List V} {H:AH} {Q:V->AH->Prop} (h:fns f=some fn) (hl:vs.length=fn.params)
    (w:wpSs (CN n) fn.body (initEnv fn vs) H fun o uu H'=>Q o.val H'):CN (n+1) f vs H Q:=by
  unfold CN callN; rw [h]; exact ⟨hl,w⟩
theorem ibeq {i j:Int}:(i == j)=decide (i=j):=by by_cases h:i=j <;> simp [h]
theorem eq6_int {H i j}:eqF 6 H (.int i) (.int j)=some (i == j):=rfl
theorem eq6_str {H i j}:eqF 6 H (.str i) (.str j)=some (i == j):=rfl
theorem eq6_none {H}:eqF 6 H .none .none=some true:=rfl
theorem eq6_si {H i j}:eqF 6 H (.str i) (.int j)=some false:=rfl
theorem eq6_is {H i j}:eqF 6 H (.int i) (.str j)=some false:=rfl
inductive ROp | MOV | ADD | SUB | IOR deriving DecidableEq
inductive IOp | ADDI | SUBI | MOVI | IORI | LSLI deriving DecidableEq
inductive MOp | LDR | STR | STB deriving DecidableEq
inductive Cnd | AL | EQ | NE | LT | GE | NV | HI deriving DecidableEq
noncomputable def ROp.s:ROp->String | .MOV => "MOV" | .ADD => "ADD" | .SUB => "SUB" | .IOR => "IOR"
noncomputable def IOp.s:IOp->String | .ADDI => "ADDI" | .SUBI => "SUBI" | .MOVI => "MOVI" | .IORI => "IORI" | .LSLI => "LSLI"
noncomputable def MOp.s:MOp->String | .LDR => "LDR" | .STR => "STR" | .STB => "STB"
noncomputable def Cnd.s:Cnd->String | .AL => "AL" | .EQ => "EQ" | .NE => "NE" | .LT => "LT" | .GE => "GE" | .NV => "NV" | .HI => "HI"
inductive Row
  | reg (op:ROp) (a b c:Nat)
  | imm (op:IOp) (a b:Nat) (c:Int)
  | mem (op:MOp) (a:Nat) (c:Int)
  | br (cond:Cnd) (off:Int)
  | trap (cond:Cnd) (n p:Int)
  | ret (cond:Cnd)
  deriving DecidableEq
theorem Row.brI {a b:Cnd} {c d:Int} (h:Row.br a c = .br b d):a=b/\c=d:=by
  injection h with h1 h2
  exact ⟨h1,h2⟩
noncomputable def rowL:Row->List V
  | .reg op a b c=>[.str op.s,.int a,.int b,.int c]
  | .imm op a b c=>[.str op.s,.int a,.int b,.int c]
  | .mem op a c=>[.str op.s,.int a,.int 13,.int c]
  | .br cond off=>[.str "B",.str cond.s,.int off,.int 0]
  | .trap cond n p=>[.str "TRAP",.str cond.s,.int n,.int p]
  | .ret cond=>[.str "BR",.str cond.s,.int 15,.int 0]
noncomputable def rowV (r:Row):V:=.tup (rowL r)
noncomputable def isBr:Row->Bool
  | .br ..=>true
  | _=>false
noncomputable def fallsF:Row->Bool
  | .br c _ | .ret c=>decide (c ≠ .AL)
  | .trap c n p=>if c = .AL then decide (n=0/\p ≠ 9) else true
  | _=>true
noncomputable def jumps:Row->Bool
  | .br c _=>decide (c ≠ .NV)
  | _=>false
theorem is_branch_spec {n:Nat} {r:Row} {H:AH} {Q:V->AH->Prop} (q:Q (.bool (isBr r)) H):CN (n+1) "is_branch" [rowV r] H Q:=by
  rcases r with ⟨uu | uu | uu | uu,a,b,c⟩ | ⟨uu | uu | uu | uu | uu,a,b,c⟩ | ⟨uu | uu | uu,a,c⟩ | ⟨uu | uu | uu | uu | uu | uu | uu,off⟩ | ⟨uu | uu | uu | uu | uu | uu | uu,en,ep⟩ | ⟨uu | uu | uu | uu | uu | uu | uu⟩ <;> exact callN_of rfl rfl (Eq.mp (by kernel_rfl) q)
theorem target_of_spec {n:Nat} {H:AH} {Q:V->AH->Prop} {cond:Cnd} {off i:Int} (q:Q (.int (i+1+off)) H):CN (n+1) "target_of" [rowV (.br cond off),.int i] H Q :=
  callN_of rfl rfl (Eq.mp (by kernel_rfl) q)
theorem can_jump_spec {n:Nat} {H:AH} {Q:V->AH->Prop} {cond:Cnd} {off:Int} (q:Q (.bool (jumps (.br cond off))) H):CN (n+1) "can_jump" [rowV (.br cond off)] H Q:=by
  rcases cond with ⟨⟩ <;> exact callN_of rfl rfl (Eq.mp (by kernel_rfl) q)
theorem falls_trap {n:Nat} {en ep:Int} {H:AH} {Q:V->AH->Prop} (q:Q (.bool (fallsF (.trap .AL en ep))) H):CN (n+1) "falls_through" [rowV (.trap .AL en ep)] H Q:=by
  refine callN_of rfl rfl ?_
  have e:(wpSs (CN n) f_falls_through.body (initEnv f_falls_through [rowV (.trap .AL en ep)]) H fun o uu H'=>Q o.val H')=match en == 0 with
    | true=>Q (.bool (!(ep == 9))) H
    | false=>Q (.bool (en == 0)) H:=by kernel_rfl
  rw [e]
  have q:Q (.bool (decide (en=0/\ep ≠ 9))) H:=q
  have hd:decide (en=0/\ep ≠ 9)=((en == 0) && !(ep == 9)):=by rw [Bool.decide_and,decide_not]; rfl
  rw [hd] at q
  rcases hb:en == 0 with uu | uu <;> rw [hb] at q <;> exact q
theorem falls_spec {n:Nat} {r:Row} {H:AH} {Q:V->AH->Prop} (q:Q (.bool (fallsF r)) H):CN (n+1) "falls_through" [rowV r] H Q:=by
  rcases r with ⟨uu | uu | uu | uu,a,b,c⟩ | ⟨uu | uu | uu | uu | uu,a,b,c⟩ | ⟨uu | uu | uu,a,c⟩ | ⟨uu | uu | uu | uu | uu | uu | uu,off⟩ | ⟨uu | uu | uu | uu | uu | uu | uu,en,ep⟩ | ⟨uu | uu | uu | uu | uu | uu | uu⟩ <;> first | exact falls_trap q | exact callN_of rfl rfl (Eq.mp (by kernel_rfl) q)
end Mine.Wk
end
section
namespace Mine.Wk
open PySem
structure rest (C:Cl) (ss:List MS) (Q:PO) (ρ:Env) (H:AH):Prop where
  w:wpSs C ss ρ H Q
noncomputable def Ev (C:Cl) (e:ME) (ρ:Env) (H:AH) (v:V):Prop:=∀ Q,Q v H->wpE C e ρ H Q
noncomputable def Evs (C:Cl) (es:List ME) (ρ:Env) (H:AH) (vs:List V):Prop:=∀ Q,Q vs H->wpEs C es ρ H Q
noncomputable def EvT (C:Cl) (t:ME) (ρ:Env) (H:AH) (b:Bool):Prop:=∀ Q,Q b H->wpT C t ρ H Q
noncomputable def EvTs (C:Cl) (t:List ME) (ρ:Env) (H:AH) (b:Bool):Prop:=∀ Q,Q b H->wpAndT C t ρ H Q
noncomputable def EvOs (C:Cl) (t:List ME) (ρ:Env) (H:AH) (b:Bool):Prop:=∀ Q,Q b H->wpOrT C t ρ H Q
noncomputable def EvN (C:Cl) (e:ME) (ρ:Env) (H:AH) (o:AO):Prop:=∀ Q,(∀ a,H a=none->Q (.ref a) (H.set a o))->wpE C e ρ H Q
variable {C:Cl} {ρ:Env} {H:AH} {x y v:V} {vs:List V} {a b t o e:ME} {es:List ME} {c d:Bool}
theorem iR {K:Rs->Prop} {r:Rs}:∀ {m:Option (Rs)},m=some r->K r->match m with | some r=>K r | none=>False
  | _,rfl,k=>k
theorem iV {K:V->Prop} {r:V}:∀ {m:Option (V)},m=some r->K r->match m with | some r=>K r | none=>False
  | _,rfl,k=>k
theorem iB {K:Bool->Prop} {r:Bool}:∀ {m:Option (Bool)},m=some r->K r->match m with | some r=>K r | none=>False
  | _,rfl,k=>k
theorem iP {K:V × AH->Prop} {r:V × AH}:∀ {m:Option (V × AH)},m=some r->K r->match m with | some r=>K r | none=>False
  | _,rfl,k=>k
theorem iZ {K:V × List V->Prop} {r:V × List V}:∀ {m:Option (V × List V)},m=some r->K r->match m with | some r=>K r | none=>False
  | _,rfl,k=>k
theorem iH {K:AH->Prop} {r:AH}:∀ {m:Option (AH)},m=some r->K r->match m with | some r=>K r | none=>False
  | _,rfl,k=>k
theorem iL {K:List V->Prop} {r:List V}:∀ {m:Option (List V)},m=some r->K r->match m with | some r=>K r | none=>False
  | _,rfl,k=>k
theorem iOI {K:Int->Prop} {r:Int}:∀ {m:Option V},m=some (.int r)->K r->match m with | some (.int i)=>K i | _=>False
  | _,rfl,k=>k
theorem ev_var {i:Nat} (h:getV ρ i=some v):Ev C (.var i) ρ H v:=fun Q q=>iV h q
theorem ev_int {i:Int}:Ev C (.int i) ρ H (.int i):=fun Q q=>q
theorem ev_str {x:String}:Ev C (.str x) ρ H (.str x):=fun Q q=>q
theorem ev_bool:Ev C (.bool c) ρ H (.bool c):=fun Q q=>q
theorem ev_none:Ev C .none ρ H .none:=fun Q q=>q
theorem ev_glob {x:String} {i:Int}:Ev C (.glob x i) ρ H (.int i):=fun Q q=>q
theorem ev_bin {op:BOp} (h1:Ev C a ρ H x) (h2:Ev C b ρ H y) (h:binF op x y H=some (.val v)):Ev C (.bin op a b) ρ H v:=fun Q q=>h1 _ (h2 _ (iR (r:=.val v) h q))
theorem ev_neg {i:Int} (h1:Ev C a ρ H (.int i)):Ev C (.neg a) ρ H (.int (-i)):=fun Q q=>h1 _ q
theorem ev_inv {i:Int} (h1:Ev C a ρ H (.int i)):Ev C (.inv a) ρ H (.int (Spec.bitNot i)):=fun Q q=>h1 _ q
theorem ev_not (h1:Ev C a ρ H x) (h:truthF x H=some c):Ev C (.not a) ρ H (.bool (!c)):=fun Q q=>h1 _ (iB h q)
theorem ev_cmp {op:COp} (h1:Ev C a ρ H x) (h2:Ev C b ρ H y) (h:cmpF op x y H=some c):Ev C (.cmp a [op] [b]) ρ H (.bool c):=fun Q q=>h1 _ (h2 _ (iB h q))
theorem ev_iteT (h:EvT C t ρ H true) (h1:Ev C a ρ H v):Ev C (.ite t a b) ρ H v:=fun Q q=>h _ (h1 Q q)
theorem ev_iteF (h:EvT C t ρ H false) (h1:Ev C b ρ H v):Ev C (.ite t a b) ρ H v:=fun Q q=>h _ (h1 Q q)
theorem ev_bi {f:String} (h1:Evs C es ρ H vs) (h:biF f vs H=some (.val v)):Ev C (.bi f es) ρ H v:=fun Q q=>h1 _ (iR (r:=.val v) h q)
theorem ev_attr {n:String} (h1:Ev C o ρ H x) (h:attrF x n H=some v):Ev C (.attr o n) ρ H v:=fun Q q=>h1 _ (iV h q)
theorem ev_sub (h1:Ev C a ρ H x) (h2:Ev C b ρ H y) (h:subF x y H=some v):Ev C (.sub a b) ρ H v:=fun Q q=>h1 _ (h2 _ (iV h q))
theorem ev_slice (h1:Ev C a ρ H x) (h2:Ev C b ρ H y) (h:sliceF x y H=some (.val v)):Ev C (.sliceTo a b) ρ H v:=fun Q q=>h1 _ (h2 _ (iR (r:=.val v) h q))
theorem ev_tup (h1:Evs C es ρ H vs):Ev C (.tup es) ρ H (.tup vs):=fun Q q=>h1 _ q
theorem ev_meth {m:String} (h1:Ev C o ρ H x) (k:kindM x m H=true) (h2:Evs C es ρ H vs) (h:methF x m vs H=some (v,H)):Ev C (.meth o m es) ρ H v:=fun Q q=>h1 _ (by rw [k]; exact h2 _ (iP (r:=(v,H)) h q))
noncomputable def EvF (C:Cl) (f:String) (vs:List V) (H:AH) (v:V):Prop:=∀ Q,Q v H->C f vs H Q
theorem ev_call {f:String} (h:Evs C es ρ H vs) (k:EvF C f vs H v):Ev C (.call f es) ρ H v:=fun Q q=>h _ (k _ q)
theorem evt_call {f:String} (h:Evs C es ρ H vs) (k:EvF C f vs H v) (t:truthF v H=some c):EvT C (.call f es) ρ H c:=fun Q q=>h _ (k _ (iB t q))
theorem evs_nil:Evs C [] ρ H []:=fun Q q=>q
theorem evs_cons (h1:Ev C e ρ H v) (h2:Evs C es ρ H vs):Evs C (e::es) ρ H (v::vs):=fun Q q=>h1 _ (h2 _ q)
theorem evt_var {i:Nat} (h:getV ρ i=some v) (k:truthF v H=some c):EvT C (.var i) ρ H c:=fun Q q=>iV h (iB k q)
theorem evt_sub (h1:Ev C a ρ H x) (h2:Ev C b ρ H y) (h:subF x y H=some v) (k:truthF v H=some c):EvT C (.sub a b) ρ H c:=fun Q q=>h1 _ (h2 _ (iV h (iB k q)))
theorem evt_cmp {op:COp} (h1:Ev C a ρ H x) (h2:Ev C b ρ H y) (h:cmpF op x y H=some c):EvT C (.cmp a [op] [b]) ρ H c:=fun Q q=>h1 _ (h2 _ (iB h q))
theorem evt_not (h:EvT C a ρ H c):EvT C (.not a) ρ H (!c):=fun Q q=>h _ q
theorem evt_notT (h:EvT C a ρ H false):EvT C (.not a) ρ H true:=fun Q q=>h _ q
theorem evt_notF (h:EvT C a ρ H true):EvT C (.not a) ρ H false:=fun Q q=>h _ q
theorem evt_and (h:EvTs C es ρ H c):EvT C (.and es) ρ H c:=fun Q q=>h _ q
theorem evt_or (h:EvOs C es ρ H c):EvT C (.or es) ρ H c:=fun Q q=>h _ q
theorem evt_nil:EvTs C [] ρ H true:=fun Q q=>q
theorem evt_t (h:EvT C a ρ H true) (k:EvTs C es ρ H c):EvTs C (a::es) ρ H c:=fun Q q=>h _ (k Q q)
theorem evt_f (h:EvT C a ρ H false):EvTs C (a::es) ρ H false:=fun Q q=>h _ q
theorem evo_nil:EvOs C [] ρ H false:=fun Q q=>q
theorem evo_f (h:EvT C a ρ H false) (k:EvOs C es ρ H c):EvOs C (a::es) ρ H c:=fun Q q=>h _ (k Q q)
theorem evo_t (h:EvT C a ρ H true):EvOs C (a::es) ρ H true:=fun Q q=>h _ q
theorem evt_c (h:EvT C a ρ H c) (k:EvTs C es ρ H d):EvTs C (a::es) ρ H (c && d):=by
  rcases c with uu | uu
  · exact evt_f h
  · exact evt_t h k
theorem evo_c (h:EvT C a ρ H c) (k:EvOs C es ρ H d):EvOs C (a::es) ρ H (c || d):=by
  rcases c with uu | uu
  · exact evo_f h k
  · exact evo_t h
theorem evn_list (h:Evs C es ρ H vs):EvN C (.list es) ρ H (.list vs):=fun Q q=>h _ q
theorem evn_dict0:EvN C (.dict [] []) ρ H (.di false []):=fun Q q=>q
theorem evn_dict {k:String} {ks:List String} (h:Evs C es ρ H vs):EvN C (.dict (k::ks) es) ρ H (.ds false ((k::ks).zip vs)):=fun Q q=>h _ q
theorem evn_bin {op:BOp} {ob:AO} (h1:Ev C a ρ H x) (h2:Ev C b ρ H y) (h:binF op x y H=some (.new ob)):EvN C (.bin op a b) ρ H ob:=fun Q q=>h1 _ (h2 _ (iR (r:=.new ob) h q))
theorem evn_bi {f:String} {ob:AO} (h1:Evs C es ρ H vs) (h:biF f vs H=some (.new ob)):EvN C (.bi f es) ρ H ob:=fun Q q=>h1 _ (iR (r:=.new ob) h q)
theorem evn_slice {ob:AO} (h1:Ev C a ρ H x) (h2:Ev C b ρ H y) (h:sliceF x y H=some (.new ob)):EvN C (.sliceTo a b) ρ H ob:=fun Q q=>h1 _ (h2 _ (iR (r:=.new ob) h q))
variable {Q:PO} {ss A B:List MS} {i:Nat}
noncomputable def Next (C:Cl) (ss:List MS) (Q:PO):PO:=fun o ρ₁ H₁=>match o with | .next=>rest C ss Q ρ₁ H₁ | .ret v=>Q (.ret v) ρ₁ H₁
theorem rest_cons {s:MS} (hC:Mono C) (h:wpS C s ρ H (Next C ss Q)):rest C (s::ss) Q ρ H:=⟨wpS_mono hC s _ _ _ _ (fun o ρ₁ H₁ z=>by
  rcases o with uu | v
  · exact (show rest C ss Q ρ₁ H₁ from z).w
  · exact z) h⟩
theorem rest_nil (q:Q .next ρ H):rest C [] Q ρ H:=⟨q⟩
theorem r_assign (h:Ev C e ρ H v) (k:rest C ss Q (setV ρ i v) H):rest C (.assign i e::ss) Q ρ H:=⟨h _ k.w⟩
theorem r_assignW (hC:Mono C) (h:wpE C e ρ H fun v H'=>rest C ss Q (setV ρ i v) H'):rest C (.assign i e::ss) Q ρ H:=⟨wpE_mono hC e _ _ _ _ (fun v H' z=>z.w) h⟩
noncomputable def Ext (H H':AH):Prop:=∀ a o,H a=some o->H' a=some o
theorem Ext.rfl {H:AH}:Ext H H:=fun uu uu h=>h
theorem Ext.trans {H H' H'':AH} (h:Ext H H') (h':Ext H' H''):Ext H H'':=fun a o e=>h' a o (h a o e)
theorem set_same {H:AH} {a:Nat} {o:AO}:(H.set a o) a=some o:=if_pos rfl
theorem set_other {H:AH} {a b:Nat} {o:AO} (h:b ≠ a):(H.set a o) b=H b:=if_neg h
theorem ne_of_none {H:AH} {a b:Nat} {o:AO} (h:H a=some o) (h':H b=Option.none):a ≠ b:=fun e=>nomatch (e ▸ h').symm.trans h
theorem ext_set {H H':AH} {a:Nat} {o:AO} (e:Ext H H') (h:H a=Option.none):Ext H (H'.set a o):=fun b o' hb=>(set_other (ne_of_none hb h)).trans (e _ _ hb)
theorem Ext.none {H H':AH} (e:Ext H H') {a:Nat} (h:H' a=Option.none):H a=Option.none:=by
  rcases h1:H a with uu | o
  · rfl
  · exact nomatch h.symm.trans (e _ _ h1)
structure New (H:AH) (a:Nat) (o:AO) (H':AH):Prop where
  n:H a=none
  e:Ext H H'
  g:H' a=some o
  o:∀ b,b ≠ a->H' b=H b
theorem New.mk' {a:Nat} {ob:AO} (h:H a=none):New H a ob (H.set a ob):=⟨h,ext_set .rfl h,set_same,fun b=>set_other⟩
theorem r_new {ob:AO} (h:EvN C e ρ H ob) (k:∀ a H',New H a ob H'->rest C ss Q (setV ρ i (.ref a)) H'):rest C (.assign i e::ss) Q ρ H:=⟨h _ fun a ha=>(k a _ (.mk' ha)).w⟩
theorem r_retN {ob:AO} (h:EvN C e ρ H ob) (k:∀ a H',New H a ob H'->Q (.ret (.ref a)) ρ H'):rest C (.ret e::ss) Q ρ H:=⟨h _ fun a ha=>k a _ (.mk' ha)⟩
theorem r_ret (h:Ev C e ρ H v) (k:Q (.ret v) ρ H):rest C (.ret e::ss) Q ρ H:=⟨h _ k⟩
theorem r_retW (h:wpE C e ρ H fun v H'=>Q (.ret v) ρ H'):rest C (.ret e::ss) Q ρ H:=⟨h⟩
theorem r_exprW (hC:Mono C) (h:wpE C e ρ H fun uu H'=>rest C ss Q ρ H'):rest C (.expr e::ss) Q ρ H:=⟨wpE_mono hC e _ _ _ _ (fun v H' z=>z.w) h⟩
theorem w_call {f:String} {K:V->AH->Prop} (h:Evs C es ρ H vs) (k:C f vs H K):wpE C (.call f es) ρ H K:=h _ k
theorem w_meth1 {m:String} {K:V->AH->Prop} (h1:Ev C o ρ H x) (hk:kindM x m H=true) (h:wpE C e ρ H fun v H'=>∃ r,methF x m [v] H'=some r/\K r.1 r.2) (hC:Mono C):wpE C (.meth o m [e]) ρ H K :=
  h1 _ (by rw [hk]; exact wpE_mono hC e _ _ _ _ (fun v H' z=>z.elim fun r z=>iP z.1 z.2) h)
theorem r_meth {m:String} {H':AH} (h1:Ev C o ρ H x) (hk:kindM x m H=true) (h2:Evs C es ρ H vs) (h:methF x m vs H=some (v,H')) (k:rest C ss Q ρ H'):rest C (.expr (.meth o m es)::ss) Q ρ H:=⟨h1 _ (by rw [hk]; exact h2 _ (iP (r:=(v,H')) h k.w))⟩
theorem r_methA {m:String} {H':AH} (h1:Ev C o ρ H x) (hk:kindM x m H=true) (h2:Evs C es ρ H vs) (h:methF x m vs H=some (v,H')) (k:rest C ss Q (setV ρ i v) H'):rest C (.assign i (.meth o m es)::ss) Q ρ H:=⟨h1 _ (by rw [hk]; exact h2 _ (iP (r:=(v,H')) h k.w))⟩
theorem r_setSub {H':AH} (h1:Ev C e ρ H v) (h2:Ev C o ρ H x) (h3:Ev C b ρ H y) (h:storeF x y v H=some H') (k:rest C ss Q ρ H'):rest C (.setSub o b e::ss) Q ρ H:=⟨h1 _ (h2 _ (h3 _ (iH h k.w)))⟩
theorem r_setAttr {n:String} {H':AH} (h1:Ev C e ρ H v) (h2:Ev C o ρ H x) (h:setAttrF x n v H=some H') (k:rest C ss Q ρ H'):rest C (.setAttr o n e::ss) Q ρ H:=⟨h1 _ (h2 _ (iH h k.w))⟩
theorem r_aug {m n:Int} (h1:getV ρ i=some (.int m)) (h2:Ev C e ρ H (.int n)) (k:rest C ss Q (setV ρ i (.int (m+n))) H):rest C (.aug i e::ss) Q ρ H:=⟨iOI h1 (h2 _ k.w)⟩
theorem r_augSub {m n:Int} {H':AH} (h1:Ev C o ρ H x) (h2:Ev C b ρ H y) (h:subF x y H=some (.int m)) (h3:Ev C e ρ H (.int n)) (h4:storeF x y (.int (m+n)) H=some H') (k:rest C ss Q ρ H'):rest C (.augSub o b e::ss) Q ρ H :=
  ⟨h1 _ (h2 _ (iOI h (h3 _ (iH h4 k.w))))⟩
theorem r_unpack {ts:List MT} (h1:Ev C e ρ H v) (h:unpackF v ts.length H=some vs) (k:wpTs C ts vs ρ H fun ρ₁ H₂=>wpSs C ss ρ₁ H₂ Q):rest C (.unpack ts e::ss) Q ρ H:=⟨h1 _ (iL h k)⟩
theorem app_w (hC:Mono C):∀ {A:List MS} {ρ:Env} {H:AH},wpSs C (A ++ ss) ρ H Q->wpSs C A ρ H (fun o ρ₁ H₁=>match o with | .next=>wpSs C ss ρ₁ H₁ Q | .ret v=>Q (.ret v) ρ₁ H₁)
  | [],ρ,H,h=>h
  | s::A,ρ,H,h=>wpS_mono hC s _ _ _ _ (fun o ρ₁ H₁ z=>by
    rcases o with uu | v
    · exact app_w hC (A:=A) z
    · exact z) h
theorem r_ifT (hC:Mono C) (h:EvT C t ρ H true) (k:rest C (A ++ ss) Q ρ H):rest C (.ite t A B::ss) Q ρ H:=⟨h _ (app_w hC k.w)⟩
theorem r_ifF (hC:Mono C) (h:EvT C t ρ H false) (k:rest C (B ++ ss) Q ρ H):rest C (.ite t A B::ss) Q ρ H:=⟨h _ (app_w hC k.w)⟩
theorem r_if (hC:Mono C) (h:EvT C t ρ H c) (k1:c=true->rest C (A ++ ss) Q ρ H) (k2:c=false->rest C (B ++ ss) Q ρ H):rest C (.ite t A B::ss) Q ρ H:=by
  rcases c with uu | uu
  · exact r_ifF hC h (k2 rfl)
  · exact r_ifT hC h (k1 rfl)
theorem call_of {n:Nat} {f:String} {fn:Fn} {Q:V->AH->Prop} (h:fns f=some fn) (hl:vs.length=fn.params) (w:rest (CN n) fn.body (fun o uu H'=>Q o.val H') (initEnv fn vs) H):CN (n+1) f vs H Q:=callN_of h hl w.w
noncomputable def bitI (r:Nat):Int:=1*2 ^ r
theorem bit_ev {n:Nat} {H:AH} {r:Nat} (hr:r<=1000):EvF (CN (n+1)) "bit" [.int r] H (.int (bitI r)):=fun Q q=>
  call_of rfl rfl (r_ret (ev_bin ev_int (ev_var rfl) (if_pos ⟨Int.natCast_nonneg r,Int.ofNat_le.mpr hr,rfl⟩)) q)
noncomputable def regNames:List String:=["LSL", "ASR", "ROR", "AND", "ANN", "IOR", "XOR", "ADD", "SUB", "MUL", "DIV"]
theorem anyF_strs {x:String}:∀ (l:List String),anyF (.str x) (l.map V.str)=some (l.contains x)
  | []=>rfl
  | y::l=>by
    rw [List.map_cons,anyF,eqP,anyF_strs l,List.contains_cons,BEq.comm]
    rfl
theorem is_register_ev {n:Nat} {H:AH} {x:String}:EvF (CN (n+1)) "is_register_form" [.str x] H (.bool (regNames.contains x)):=fun Q q=>
  call_of rfl rfl (r_ret (ev_cmp (ev_var rfl) (ev_tup (evs_cons ev_str (evs_cons ev_str (evs_cons ev_str (evs_cons ev_str (evs_cons ev_str (evs_cons ev_str (evs_cons ev_str (evs_cons ev_str (evs_cons ev_str (evs_cons ev_str (evs_cons ev_str evs_nil)))))))))))) (anyF_strs regNames)) q)
end Mine.Wk
end
section
namespace Mine.Wk
open PySem
theorem rest_of {C:Cl} {ss:List MS} {Q:PO} {ρ:Env} {H:AH} (h:wpSs C ss ρ H Q):rest C ss Q ρ H:=⟨h⟩
theorem rest_eq {C:Cl} {ss:List MS} {Q:PO} {ρ:Env} {H:AH}:rest C ss Q ρ H=wpSs C ss ρ H Q:=propext ⟨fun h=>h.w,fun h=>⟨h⟩⟩
theorem ss_nil {C:Cl} {Q:PO} {ρ:Env} {H:AH}:wpSs C [] ρ H Q=Q .next ρ H:=rfl
theorem ss_one {C:Cl} {s:MS} {Q:PO} {ρ:Env} {H:AH}:wpSs C [s] ρ H Q=wpS C s ρ H Q:=by
  have e:(fun (o:Out) (ρ₁:Env) (H₁:AH)=>match o with | .next=>Q .next ρ₁ H₁ | .ret v=>Q (.ret v) ρ₁ H₁)=Q:=by
    funext o ρ₁ H₁; cases o <;> rfl
  have:wpSs C [s] ρ H Q=wpS C s ρ H (fun (o:Out) (ρ₁:Env) (H₁:AH)=>match o with | .next=>Q .next ρ₁ H₁ | .ret v=>Q (.ret v) ρ₁ H₁):=rfl
  rw [this,e]
theorem ss_cons {C:Cl} {s t:MS} {ss:List MS} {Q:PO} {ρ:Env} {H:AH} :
    wpSs C (s::t::ss) ρ H Q=wpS C s ρ H (fun o ρ₁ H₁=>match o with | .next=>rest C (t::ss) Q ρ₁ H₁ | .ret v=>Q (.ret v) ρ₁ H₁):=by
  simp only [rest_eq]
  rfl
theorem for_inv {tg:Tgt} {body:Tr} {it:V} {all:List V} {Q:PO} (I:Nat->Env->AH->Prop)
    (hs:∀ i ρ H,I i ρ H->still it all H)
    (hb:∀ i x ρ H,all[i]? = some x->I i ρ H->match bindT tg x ρ with
      | Option.none=>False
      | some ρ'=>body ρ' H fun o ρ₁ H₁=>match o with
        | .next=>I (i+1) ρ₁ H₁
        | .ret v=>Q (.ret v) ρ₁ H₁)
    (he:∀ ρ H,I all.length ρ H->Q .next ρ H) (hm:TMono body) {ρ:Env} {H:AH} (h0:I 0 ρ H):forT tg body it all all ρ H Q:=by
  suffices h:∀ (xs ys:List V) ρ H,all=ys ++ xs->I ys.length ρ H->forT tg body it all xs ρ H Q from h all [] ρ H rfl h0
  intro xs
  induction xs with
  | nil=>
    intro ys ρ H e h
    simp only [List.append_nil] at e
    exact ⟨hs _ _ _ h,he _ _ (e ▸ h)⟩
  | cons x xs ih=>
    intro ys ρ H e h
    refine ⟨hs _ _ _ h,?_⟩
    have:=hb ys.length x ρ H (by rw [e]; simp) h
    split at this
    · exact this.elim
    · rename_i ρ' e1
      (try rw [e1])
      refine hm _ _ _ _ (fun o ρ₁ H₁ z=>?_) this
      cases o with
      | next=>exact ih (ys ++ [x]) _ _ (by simp [e]) (by simpa using z)
      | ret v=>exact z
theorem while_inv {C:Cl} {t:ME} {body:List MS} {Q:PO} (I:Nat->Env->AH->Prop) (hC:Mono C)
    (hb:∀ k ρ H,I k ρ H->wpT C t ρ H fun b H₁=>match b with
      | false=>Q .next ρ H₁
      | true=>∃ j,k=j+1/\wpSs C body ρ H₁ fun o ρ₁ H₂=>match o with
        | .next=>I j ρ₁ H₂
        | .ret v=>Q (.ret v) ρ₁ H₂) :
    ∀ k ρ H,I k ρ H->wpS C (.while_ t body) ρ H Q:=by
  intro k ρ H h
  refine ⟨k+1,?_⟩
  induction k generalizing ρ H with
  | zero=>
    refine wpT_mono hC t _ _ _ _ (fun b H₁ z=>?_) (hb 0 ρ H h)
    cases b with
    | false=>exact z
    | true=>obtain ⟨j,e,uu⟩:=z; omega
  | succ k ih=>
    refine wpT_mono hC t _ _ _ _ (fun b H₁ z=>?_) (hb (k+1) ρ H h)
    cases b with
    | false=>exact z
    | true=>
      obtain ⟨j,e,z⟩:=z
      have e:j=k:=by omega
      subst e
      refine wpSs_mono hC _ _ _ _ _ (fun o ρ₁ H₂ z=>?_) z
      cases o with
      | next=>exact ih _ _ z
      | ret v=>exact z
theorem ne_of_at {H:AH} {a b:Nat} {o o':AO} (h:H a=some o) (h':H b=some o') (hn:o ≠ o'):a ≠ b:=by
  rintro rfl; rw [h] at h'; cases h'; exact hn rfl
theorem idx_cast {xs:List V} {i:Nat} (h:i<100000):idxF xs (i:Int)=xs[i]?:=by
  have h1:(0:Int)<=(i:Int)/\(i:Int)<100000:=by omega
  simp [idxF,h1]
theorem rngL_len {lo hi:Int}:(rngL lo hi).length=(hi - lo).toNat:=by simp [rngL]
theorem rngL_get {lo hi:Int} {i:Nat} {x:V} (h:(rngL lo hi)[i]? = some x):x = .int (lo+i)/\i<(hi - lo).toNat:=by
  simp only [rngL,List.getElem?_map,Option.map_eq_some_iff] at h
  obtain ⟨k,h1,h2⟩:=h
  rw [List.getElem?_eq_some_iff] at h1
  obtain ⟨h3,h4⟩:=h1
  simp at h3 h4
  subst h4
  exact ⟨h2.symm,by omega⟩
theorem CN_Mono {n:Nat}:Mono (CN n):=callN_mono fns n
theorem body_mono {n:Nat} {b:List MS}:TMono (fun ρ' H' K=>wpSs (CN n) b ρ' H' K):=fun ρ H Q Q' q h=>wpSs_mono CN_Mono b ρ H Q Q' q h
theorem keys_rng {lo hi:Int} {H:AH}:keysF (.rng lo hi) H=Option.none:=rfl
theorem iter_rng {lo hi:Int} {H:AH}:iterF (.rng lo hi) H=some (rngL lo hi):=rfl
theorem keys_list {H:AH} {a:Nat} {xs:List V} (h:H a=some (.list xs)):keysF (.ref a) H=Option.none:=congrArg keysO h
theorem listAt_of {H:AH} {a:Nat} {xs:List V} (h:H a=some (.list xs)):listAt H a=some xs:=by unfold listAt; rw [h]
theorem iter_list {H:AH} {a:Nat} {xs:List V} (h:H a=some (.list xs)):iterF (.ref a) H=some xs:=listAt_of h
theorem still_list {H:AH} {a:Nat} {xs:List V} (h:H a=some (.list xs)):still (.ref a) xs H:=listAt_of h
theorem still_rng {lo hi:Int} {H:AH}:still (.rng lo hi) (rngL lo hi) H:=rfl
theorem still_none {all:List V} {H:AH}:still .none all H:=trivial
theorem bind_of {α β:Type} {o:Option α} {x:α} {f:α->Option β} {r:Option β} (h:o=some x) (k:f x=r):o.bind f=r:=by rw [h]; exact k
theorem len_list {H:AH} {a:Nat} {xs:List V} (h:H a=some (.list xs)) (hl:xs.length<=100000):biF "len" [.ref a] H=some (.val (.int xs.length)):=bind_of (listAt_of h) (if_pos hl)
theorem len_map {α:Type} {f:α->V} {H:AH} {a:Nat} {xs:List α} (h:H a=some (.list (xs.map f))) (hl:xs.length<=100000):biF "len" [.ref a] H=some (.val (.int xs.length)):=by
  have:=len_list h ((List.length_map f).symm ▸ hl); rwa [List.length_map] at this
theorem range1 {n:Nat} {H:AH} (h:n<=1000):biF "range" [.int (n:Int)] H=some (.val (.rng 0 n)) :=
  show (if (n:Int)<=1000 /\ -1000<=(n:Int) then some (Rs.val (.rng 0 n)) else none)=_ from if_pos ⟨Int.ofNat_le.mpr h,Int.le_trans (by decide) (Int.natCast_nonneg n)⟩
theorem dset_keys {vs:List (Int × V)} {k:Int} {v:V} {x:Int}:x ∈ (dset vs k v).map (·.1) ↔ x ∈ vs.map (·.1) \/ x=k:=by
  induction vs with
  | nil=>simp [dset]
  | cons p r ih=>
    obtain ⟨k',w⟩:=p
    simp only [dset]
    split
    · rename_i e; subst e
      simp only [List.map_cons,List.mem_cons]
      constructor
      · exact .inl
      · rintro (h | h)
        · exact h
        · exact .inl h
    · simp only [List.map_cons,List.mem_cons,ih]
      constructor
      · rintro (h | h | h)
        · exact .inl (.inl h)
        · exact .inl (.inr h)
        · exact .inr h
      · rintro ((h | h) | h)
        · exact .inl h
        · exact .inr (.inl h)
        · exact .inr (.inr h)
theorem dset_nodup {vs:List (Int × V)} {k:Int} {v:V} (h:(vs.map (·.1)).Nodup):((dset vs k v).map (·.1)).Nodup:=by
  induction vs with
  | nil=>simp [dset]
  | cons p r ih=>
    obtain ⟨k',w⟩:=p
    simp only [List.map_cons,List.nodup_cons] at h
    simp only [dset]
    split
    · simpa using h
    · rename_i hne
      simp only [List.map_cons,List.nodup_cons]
      refine ⟨fun hm=>?_,ih h.2⟩
      rcases dset_keys.mp hm with h1 | h1
      · exact h.1 h1
      · exact hne h1
theorem dget_mem {vs:List (Int × V)} {k:Int}:(dget vs k).isSome=true ↔ k ∈ vs.map (·.1):=by
  induction vs with
  | nil=>simp [dget]
  | cons p r ih=>
    obtain ⟨k',w⟩:=p
    simp only [dget,List.map_cons,List.mem_cons]
    split
    · rename_i e; subst e; simp
    · rename_i hne
      rw [ih]
      constructor
      · exact .inr
      · rintro (h | h)
        · exact absurd h.symm hne
        · exact h
theorem nodup_len:∀ (n:Nat) (l:List Int),l.Nodup->(∀ x ∈ l,0<=x/\x<n)->l.length<=n
  | 0,l,_,hb=>by
    cases l with
    | nil=>simp
    | cons x r=>have:=hb x (by simp); omega
  | n+1,l,hn,hb=>by
    by_cases hm:(n:Int) ∈ l
    · have h1:=nodup_len n (l.erase (n:Int)) (hn.erase _) (fun x hx=>by
        have h2:=(hn.mem_erase_iff).mp hx
        have:=hb x h2.2
        have:=h2.1
        omega)
      rw [List.length_erase_of_mem hm] at h1
      omega
    · have:=nodup_len n l hn (fun x hx=>by
        have h2:=hb x hx
        have:x ≠ n:=by rintro rfl; exact hm hx
        omega)
      omega
theorem mem_insI {x y:Int} {l:List Int}:y ∈ insI x l ↔ y=x \/ y ∈ l:=by
  induction l with
  | nil=>simp [insI]
  | cons z r ih=>
    simp only [insI]
    split
    · simp
    · simp only [List.mem_cons,ih]
      constructor
      · rintro (h | h | h)
        · exact .inr (.inl h)
        · exact .inl h
        · exact .inr (.inr h)
      · rintro (h | h | h)
        · exact .inr (.inl h)
        · exact .inl h
        · exact .inr (.inr h)
theorem mem_sortI {y:Int} {l:List Int}:y ∈ sortI l ↔ y ∈ l:=by
  induction l with
  | nil=>simp [sortI]
  | cons x r ih=>simp [sortI,mem_insI,ih]
theorem len_insI {x:Int} {l:List Int}:(insI x l).length=l.length+1:=by
  induction l with
  | nil=>rfl
  | cons z r ih=>simp only [insI]; split <;> simp [ih]
theorem len_sortI {l:List Int}:(sortI l).length=l.length:=by
  induction l with
  | nil=>rfl
  | cons x r ih=>simp [sortI,len_insI,ih]
theorem nodup_insI {x:Int} {l:List Int} (h:l.Nodup) (hx:x ∉ l):(insI x l).Nodup:=by
  induction l with
  | nil=>simp [insI]
  | cons z r ih=>
    simp only [List.nodup_cons,List.mem_cons,not_or] at h hx
    simp only [insI]
    split
    · simp only [List.nodup_cons,List.mem_cons,not_or]; exact ⟨hx,h⟩
    · simp only [List.nodup_cons,mem_insI,not_or]; exact ⟨⟨fun e=>hx.1 e.symm,h.1⟩,ih h.2 hx.2⟩
theorem nodup_sortI {l:List Int} (h:l.Nodup):(sortI l).Nodup:=by
  induction l with
  | nil=>simp [sortI]
  | cons x r ih=>
    simp only [List.nodup_cons] at h
    exact nodup_insI (ih h.2) (fun e=>h.1 (mem_sortI.mp e))
theorem intsOf_map {l:List Int}:intsOf (l.map V.int)=some l:=by
  induction l with
  | nil=>rfl
  | cons x r ih=>simp [intsOf,ih]
section lemmas
variable {H:AH} {x y:V} {a b:Nat} {i j:Int} {vs ys:List V} {s₁ s₂:String}
theorem bF_add:binF .add (.int i) (.int j) H=some (.val (.int (i+j))):=rfl
theorem bF_sub:binF .sub (.int i) (.int j) H=some (.val (.int (i - j))):=rfl
theorem bF_land:binF .land (.int i) (.int j) H=some (.val (.int (Spec.bitAnd i j))):=rfl
theorem bF_lor:binF .lor (.int i) (.int j) H=some (.val (.int (Spec.bitOr i j))):=rfl
theorem bF_mod (h:j ≠ 0):binF .mod (.int i) (.int j) H=some (.val (.int (i.fmod j))):=if_neg h
theorem bF_fdiv (h:j ≠ 0) (h':small j=true):binF .fdiv (.int i) (.int j) H=some (.val (.int (i.fdiv j))):=if_pos ⟨h,h'⟩
theorem bF_mul (h:small i=true) (h':small j=true):binF .mul (.int i) (.int j) H=some (.val (.int (i*j))):=if_pos (Bool.and_eq_true_iff.mpr ⟨h,h'⟩)
theorem bF_pow (h:0<=j/\j<=64) (h':i.natAbs<=256):binF .pow (.int i) (.int j) H=some (.val (.int (i ^ j.toNat))):=if_pos ⟨h.1,h.2,h'⟩
theorem bF_shr (h:0<=j):binF .shr (.int i) (.int j) H=some (.val (.int (i.fdiv (2 ^ j.toNat)))):=if_pos h
theorem ret_val {Q:V->AH->Prop}:retR (.val x) H Q=Q x H:=rfl
theorem ret_new {Q:V->AH->Prop} {o:AO}:retR (.new o) H Q = ∀ a,H a=Option.none->Q (.ref a) (H.set a o):=rfl
theorem tF_none:truthF .none H=some false:=rfl
theorem tF_bool {b:Bool}:truthF (.bool b) H=some b:=rfl
theorem tF_int:truthF (.int i) H=some (i != 0):=rfl
theorem cm_eq:cmpF .eq x y H=eqF 6 H x y:=rfl
theorem cm_ne:cmpF .ne x y H=neF x y H:=rfl
theorem cm_lt:cmpF .lt (.int i) (.int j) H=some (decide (i<j)):=rfl
theorem cm_le:cmpF .le (.int i) (.int j) H=some (decide (i<=j)):=rfl
theorem cm_gt:cmpF .gt (.int i) (.int j) H=some (decide (i > j)):=rfl
theorem cm_ge:cmpF .ge (.int i) (.int j) H=some (decide (i ≥ j)):=rfl
theorem cm_is:cmpF .is x .none H=some (isNoneF x):=rfl
theorem cm_isnot:cmpF .isnot x .none H=some (!isNoneF x):=rfl
theorem cm_in:cmpF .isin x y H=inF x y H:=rfl
theorem cm_notin:cmpF .notin x y H=(inF x y H).map (!·):=rfl
theorem ne_int:neF (.int i) (.int j) H=some (!(i == j)):=rfl
theorem ne_str:neF (.str s₁) (.str s₂) H=some (!(s₁ == s₂)):=rfl
theorem in_tup:inF x (.tup ys) H=anyF x ys:=rfl
theorem in_list (h:H a=some (.list ys)):inF x (.ref a) H=anyF x ys:=congrArg (inO x) h
theorem in_di {fz:Bool} {kvs:List (Int × V)} (h:H a=some (.di fz kvs)):inF (.int i) (.ref a) H=some (dget kvs i).isSome:=congrArg (inO (.int i)) h
theorem any_nil:anyF x []=some false:=rfl
theorem any_str:anyF (.str s₁) (.str s₂ :: ys)=(anyF (.str s₁) ys).map ((s₂ == s₁) || ·):=rfl
theorem any_int:anyF (.int i) (.int j::ys)=(anyF (.int i) ys).map ((j == i) || ·):=rfl
theorem sub_tup:subF (.tup vs) (.int i) H=idxF vs i:=rfl
theorem sub_list (h:H a=some (.list vs)):subF (.ref a) (.int i) H=idxF vs i:=congrArg (subO i) h
theorem sub_di {fz:Bool} {kvs:List (Int × V)} (h:H a=some (.di fz kvs)):subF (.ref a) (.int i) H=dget kvs i:=congrArg (subO i) h
theorem dsAt_of {fz:Bool} {kvs:List (String × V)} (h:H a=some (.ds fz kvs)):dsAt H a=some kvs:=by unfold dsAt; rw [h]
theorem sub_ds {fz:Bool} {kvs:List (String × V)} (h:H a=some (.ds fz kvs)):subF (.ref a) (.str s₁) H=dget kvs s₁:=bind_of (dsAt_of h) rfl
theorem idx0:idxF (x::vs) 0=some x:=rfl
theorem idx1 {x1:V}:idxF (x::x1::vs) 1=some x1:=rfl
theorem idx2 {x1 x2:V}:idxF (x::x1::x2::vs) 2=some x2:=rfl
theorem idx3 {x1 x2 x3:V}:idxF (x::x1::x2::x3::vs) 3=some x3:=rfl
end lemmas
noncomputable def Body (I:Env->AH->Prop) (Q:PO):PO:=fun o ρ H=>match o with | .next=>I ρ H | .ret v=>Q (.ret v) ρ H
inductive Turn (C:Cl) (tg:Tgt) (x:V) (b:List MS) (Q:PO) (ρ:Env) (H:AH):Prop
  | mk (ρ':Env) (e:bindT tg x ρ = some ρ') (r:rest C b Q ρ' H)
theorem for_turn {C:Cl} {tg:Tgt} {it:V} {all:List V} {b:List MS} {Q:PO} {ρ:Env} {H:AH} (hC:Mono C) (I:Nat->Env->AH->Prop) (hs:∀ i ρ H,I i ρ H->still it all H)
    (hb:∀ i x ρ H,all[i]? = some x->I i ρ H->Turn C tg x b (Body (I (i+1)) Q) ρ H) (he:∀ ρ H,I all.length ρ H->Q .next ρ H) (h0:I 0 ρ H):forT tg (fun ρ' H' K=>wpSs C b ρ' H' K) it all all ρ H Q :=
  for_inv I hs (fun i x ρ H hx hI=>by obtain ⟨ρ',e,r⟩:=hb i x ρ H hx hI; rw [e]; exact r.w) he (fun ρ H Q Q' q h=>wpSs_mono hC b ρ H Q Q' q h) h0
theorem r_for {C:Cl} {tg:Tgt} {it:ME} {x:V} {all:List V} {b ss:List MS} {Q:PO} {ρ:Env} {H:AH} (hC:Mono C) (h:Ev C it ρ H x) (hk:keysF x H=none) (hi:iterF x H=some all) (I:Nat->Env->AH->Prop) (hs:∀ i ρ H,I i ρ H->still x all H)
    (hb:∀ i v ρ H,all[i]? = some v->I i ρ H->Turn C tg v b (Body (I (i+1)) Q) ρ H) (h0:I 0 ρ H) (he:∀ ρ H,I all.length ρ H->rest C ss Q ρ H):rest C (.for_ tg it b::ss) Q ρ H :=
  ⟨h _ (by rw [hk]; exact iL hi (for_turn hC I hs (fun i v ρ H hx hI=>by
    obtain ⟨ρ',e,r⟩:=hb i v ρ H hx hI
    exact ⟨ρ',e,⟨wpSs_mono hC b _ _ _ _ (fun o ρ₁ H₁ z=>by rcases o with uu | uu <;> exact z) r.w⟩⟩) (fun ρ H hI=>(he ρ H hI).w) h0))⟩
theorem r_forK {C:Cl} {tg:Tgt} {it:ME} {x:V} {all:List V} {b ss:List MS} {Q:PO} {ρ:Env} {H:AH} (hC:Mono C) (h:Ev C it ρ H x) (hk:keysF x H=some all) (I:Nat->Env->AH->Prop)
    (hb:∀ i v ρ H',all[i]? = some v->I i ρ H'->Turn C tg v b (Body (I (i+1)) fun o ρ₁ H₂=>Q o ρ₁ (thaw x H H₂)) ρ H') (h0:I 0 ρ (freeze x H)) (he:∀ ρ H',I all.length ρ H'->rest C ss Q ρ (thaw x H H')):rest C (.for_ tg it b::ss) Q ρ H :=
  ⟨h _ (by rw [hk]; exact for_turn hC I (fun uu uu uu uu=>trivial) (fun i v ρ H hx hI=>by
    obtain ⟨ρ',e,r⟩:=hb i v ρ H hx hI
    exact ⟨ρ',e,⟨wpSs_mono hC b _ _ _ _ (fun o ρ₁ H₁ z=>by rcases o with uu | uu <;> exact z) r.w⟩⟩) (fun ρ H hI=>(he ρ H hI).w) h0)⟩
inductive WTurn (C:Cl) (t:ME) (b ss:List MS) (I:Nat->Env->AH->Prop) (Q:PO) (k:Nat) (ρ:Env) (H:AH):Prop
  | stop (e:EvT C t ρ H false) (r:rest C ss Q ρ H)
  | go (e:EvT C t ρ H true) (j:Nat) (h:k=j+1) (r:rest C b (Body (I j) Q) ρ H)
theorem r_while {C:Cl} {t:ME} {b ss:List MS} {Q:PO} {ρ:Env} {H:AH} (hC:Mono C) (I:Nat->Env->AH->Prop) {k:Nat} (hb:∀ k ρ H,I k ρ H->WTurn C t b ss I Q k ρ H) (h0:I k ρ H):rest C (.while_ t b::ss) Q ρ H :=
  ⟨⟨k+1,by
    induction k generalizing ρ H with
    | zero=>
      rcases hb 0 ρ H h0 with ⟨e,r⟩ | ⟨e,j,h,r⟩
      · exact e _ r.w
      · exact nomatch h
    | succ k ih=>
      rcases hb (k+1) ρ H h0 with ⟨e,r⟩ | ⟨e,j,h,r⟩
      · exact e _ r.w
      · obtain rfl:=Nat.succ.inj h
        exact e _ (wpSs_mono hC b _ _ _ _ (fun o ρ₁ H₁ z=>by
          rcases o with uu | v
          · exact ih z
          · exact z) r.w)⟩⟩
end Mine.Wk
end
section
namespace Mine.Wk
open PySem
noncomputable def immF:Row->Bool
  | .imm .MOVI _ _ _=>false
  | .imm ..=>true
  | _=>false
noncomputable def rowName:Row->String
  | .reg op _ _ _=>op.s
  | .imm op _ _ _=>op.s
  | .mem op _ _=>op.s
  | .br _ _ => "B"
  | .trap _ _ _ => "TRAP"
  | .ret _ => "BR"
theorem imm_go {n:Nat} {H:AH} {Q:V->AH->Prop} {x y:String} (e:(wpSs (CN (n+1)) f_is_immediate_form.body (initEnv f_is_immediate_form [.str x]) H fun o uu H'=>Q o.val H')=CN (n+1) "is_register_form" [.str y] H Q)
    (q:Q (.bool (regNames.contains y)) H):CN (n+2) "is_immediate_form" [.str x] H Q:=callN_of rfl rfl (e ▸ is_register_ev Q q)
theorem is_immediate_ev {n:Nat} {H:AH} {r:Row}:EvF (CN (n+2)) "is_immediate_form" [.str (rowName r)] H (.bool (immF r)):=by
  intro Q q
  rcases r with ⟨op,a,b,c⟩ | ⟨op,a,b,c⟩ | ⟨op,a,c⟩ | ⟨uu,off⟩ | ⟨uu,en,ep⟩ | uu
  · rcases op with ⟨⟩ <;> exact callN_of rfl rfl (Eq.mp (by kernel_rfl) q)
  · rcases op with ⟨⟩
    · exact imm_go (y := "ADD") (by kernel_rfl) q
    · exact imm_go (y := "SUB") (by kernel_rfl) q
    · exact imm_go (y := "MOV") (by kernel_rfl) q
    · exact imm_go (y := "IOR") (by kernel_rfl) q
    · exact imm_go (y := "LSL") (by kernel_rfl) q
  · rcases op with ⟨⟩ <;> exact callN_of rfl rfl (Eq.mp (by kernel_rfl) q)
  · exact callN_of rfl rfl (Eq.mp (by kernel_rfl) q)
  · exact callN_of rfl rfl (Eq.mp (by kernel_rfl) q)
  · exact callN_of rfl rfl (Eq.mp (by kernel_rfl) q)
noncomputable def setsF:Row->Bool
  | .reg ..=>true
  | .imm ..=>true
  | _=>false
theorem sets_at {n:Nat} {H:AH} {r:Row}:Ev (CN (n+2)) (.sub (.var 0) (.int 0)) [some (rowV r),none] H (.str (rowName r)) :=
  ev_sub (ev_var rfl) ev_int (by rcases r with uu | uu | uu | uu | uu | uu <;> rfl)
theorem or_go {n:Nat} {H:AH} {x:String} {c d:Bool} {Q:V->AH->Prop} {ρ:Env} (h:getV ρ 1=some (.str x)) (h1:EvF (CN (n+2)) "is_register_form" [.str x] H (.bool c)) (h2:EvF (CN (n+2)) "is_immediate_form" [.str x] H (.bool d)) (q:Q (.bool (c || d)) H) :
    wpE (CN (n+2)) (.or [.call "is_register_form" [.var 1],.call "is_immediate_form" [.var 1]]) ρ H Q:=by
  refine ev_var (H:=H) (C:=CN (n+2)) h (fun v H'=>CN (n+2) "is_register_form" [v] H' fun v H₁=>match truthF v H₁ with
    | some true=>Q v H₁
    | some false=>wpOr (CN (n+2)) [.call "is_immediate_form" [.var 1]] ρ H₁ Q
    | none=>False) (h1 _ ?_)
  rcases c with uu | uu
  · exact ev_var (H:=H) (C:=CN (n+2)) h (fun v H'=>CN (n+2) "is_immediate_form" [v] H' Q) (h2 _ q)
  · exact q
theorem sets_flags_ev {n:Nat} {H:AH} {r:Row}:EvF (CN (n+3)) "sets_flags" [rowV r] H (.bool (setsF r)):=fun Q q=>by
  refine call_of rfl rfl (r_assign sets_at ?_)
  have t:EvT (CN (n+2)) (.cmp (.var 1) [.isin] [.tup [.str "MOV",.str "MOVI",.str "MOVH",.str "GETH"]]) [some (rowV r),some (.str (rowName r))] H (["MOV", "MOVI", "MOVH", "GETH"].contains (rowName r)) :=
    evt_cmp (ev_var rfl) (ev_tup (evs_cons ev_str (evs_cons ev_str (evs_cons ev_str (evs_cons ev_str evs_nil))))) (anyF_strs ["MOV", "MOVI", "MOVH", "GETH"])
  refine r_if CN_Mono t (fun hc=>r_ret ev_bool ?_) fun hc=>r_retW (or_go rfl is_register_ev is_immediate_ev ?_)
  · have e:setsF r=true:=by
      rcases r with ⟨⟨⟩,a,b,c⟩ | ⟨⟨⟩,a,b,c⟩ | ⟨⟨⟩,a,c⟩ | uu | uu | uu <;> first | rfl | exact nomatch hc
    exact e ▸ q
  · have e:setsF r=(regNames.contains (rowName r) || immF r):=by
      rcases r with ⟨⟨⟩,a,b,c⟩ | ⟨⟨⟩,a,b,c⟩ | ⟨⟨⟩,a,c⟩ | uu | uu | uu <;> first | rfl | exact nomatch hc
    exact e ▸ q
end Mine.Wk
end
section
namespace Mine.Wk
open PySem
theorem bnn (x:Int):Spec.bitNot (Spec.bitNot x)=x:=by unfold Spec.bitNot; omega
theorem bor (a b:Nat):Spec.bitOr (a:Int) (b:Int)=((a ||| b:Nat):Int):=by
  unfold Spec.bitOr Spec.bitAnd
  have h1:decide (0<=Spec.bitNot (a:Int))=false:=by simp [Spec.bitNot]; omega
  have h2:decide (0<=Spec.bitNot (b:Int))=false:=by simp [Spec.bitNot]; omega
  rw [h1,h2]
  simp only [bnn]
  simp
theorem bandn (a w:Nat):Spec.bitAnd (a:Int) (Spec.bitNot (w:Int))=((a - (a &&& w):Nat):Int):=by
  unfold Spec.bitAnd
  have h1:decide (0<=(a:Int))=true:=by simp
  have h2:decide (0<=Spec.bitNot (w:Int))=false:=by simp [Spec.bitNot]; omega
  rw [h1,h2]
  simp only [bnn]
  have:=Nat.and_le_left (n:=a) (m:=w)
  simp only [Int.toNat_natCast]
  omega
theorem band (a b:Nat):Spec.bitAnd (a:Int) (b:Int)=((a &&& b:Nat):Int):=by
  unfold Spec.bitAnd
  have h1:decide (0<=(a:Int))=true:=by simp
  have h2:decide (0<=(b:Int))=true:=by simp
  rw [h1,h2]
  simp
noncomputable def condN:Cnd->Nat
  | .AL=>0
  | .NV=>0
  | _=>131072
noncomputable def readsN:Row->Nat
  | .reg .MOV _ _ c=>2 ^ c
  | .reg _ _ b c=>2 ^ b ||| 2 ^ c
  | .imm .MOVI _ _ _=>0
  | .imm _ _ b _=>2 ^ b
  | .mem .LDR _ _=>2 ^ 13
  | .mem _ a _=>2 ^ 13 ||| 2 ^ a
  | .br c _=>condN c
  | .trap c n _=>if n=0 then condN c ||| 26624 else condN c
  | .ret c=>((condN c ||| 2 ^ 15) ||| 26624) ||| 2 ^ 0
noncomputable def rOk:Row->Prop
  | .reg _ a b c=>a<4/\b<4/\c<4
  | .imm _ a b _=>a<4/\b<4
  | .mem _ a c=>a<4/\(c=64 \/ c=68 \/ c=72)
  | .br ..=>True
  | .trap _ n _=>n ≠ 0
  | .ret _=>True
theorem bit_evN {n:Nat} {H:AH} {r:Nat} (hr:r<=1000):EvF (CN (n+1)) "bit" [.int r] H (.int ((2 ^ r:Nat):Int)):=by
  have:=bit_ev (n:=n) (H:=H) hr
  have e:bitI r=((2 ^ r:Nat):Int):=by rw [bitI,Int.one_mul,Int.natCast_pow]; rfl
  rwa [e] at this
theorem at_row {n:Nat} {H:AH} {r:Row} {j k:Nat} {v:V} {ρ:Env} (h0:getV ρ j=some (rowV r)) (h:idxF (rowL r) k=some v):Ev (CN n) (.sub (.var j) (.int k)) ρ H v:=ev_sub (ev_var h0) ev_int h
theorem ev_bit {n:Nat} {H:AH} {ρ:Env} {e:ME} {r:Nat} (h:Ev (CN (n+1)) e ρ H (.int r)) (hr:r<=1000):Ev (CN (n+1)) (.call "bit" [e]) ρ H (.int ((2 ^ r:Nat):Int)):=ev_call (evs_cons h evs_nil) (bit_evN hr)
theorem ev_lor {C:Cl} {H:AH} {ρ:Env} {a b:ME} {x y:Nat} (h1:Ev C a ρ H (.int x)) (h2:Ev C b ρ H (.int y)):Ev C (.bin .lor a b) ρ H (.int ((x ||| y:Nat):Int)):=by
  have:=ev_bin (op:=.lor) h1 h2 (v:=.int (Spec.bitOr x y)) rfl
  rwa [bor] at this
theorem le4 {a:Nat} (h:a<4):a<=1000:=Nat.le_trans (Nat.le_of_lt h) (by decide)
theorem memory_reads_ev {n:Nat} {H:AH} {op:MOp} {a:Nat} {c:Int} (ha:a<4):EvF (CN (n+2)) "memory_reads" [rowV (.mem op a c)] H (.int (readsN (.mem op a c))):=fun Q q=>by
  refine call_of rfl rfl (r_assign (ev_bit (r:=13) (at_row (r:=.mem op a c) (k:=2) rfl rfl) (by decide)) ?_)
  have t:∀ {ρ:Env} {x:String},getV ρ 0=some (rowV (.mem op a c))->EvT (CN (n+1)) (.cmp (.sub (.var 0) (.int 0)) [.eq] [.str x]) ρ H (op.s == x):=fun h=>evt_cmp (at_row (r:=.mem op a c) (k:=0) h rfl) ev_str rfl
  have b:∀ {ρ:Env},getV ρ 0=some (rowV (.mem op a c))->getV ρ 1=some (.int ((2 ^ 13:Nat):Int))->Ev (CN (n+1)) (.bin .lor (.var 1) (.call "bit" [.sub (.var 0) (.int 1)])) ρ H (.int ((2 ^ 13 ||| 2 ^ a:Nat):Int)) :=
    fun h h1=>ev_lor (ev_var h1) (ev_bit (at_row (r:=.mem op a c) (k:=1) h rfl) (le4 ha))
  rcases op with ⟨⟩
  · exact r_ifF CN_Mono (evt_or (evo_f (t rfl) (evo_f (t rfl) evo_nil))) (r_ret (ev_var rfl) q)
  · exact r_ifT CN_Mono (evt_or (evo_t (t rfl))) (r_assign (b rfl rfl) (r_ret (ev_var rfl) q))
  · exact r_ifT CN_Mono (evt_or (evo_f (t rfl) (evo_t (t rfl)))) (r_assign (b rfl rfl) (r_ret (ev_var rfl) q))
theorem is_conditional_ev {n:Nat} {H:AH} {c:Cnd}:EvF (CN (n+1)) "is_conditional" [.str c.s] H (.bool (decide (c ≠ .AL/\c ≠ .NV))):=fun Q q=>by
  rcases c with ⟨⟩ <;> exact callN_of rfl rfl (Eq.mp (by kernel_rfl) q)
theorem condN_of {c:Cnd}:(if decide (c ≠ .AL/\c ≠ .NV)=true then 2 ^ 17 else 0)=condN c:=by rcases c with ⟨⟩ <;> rfl
theorem branch_go {n:Nat} {H:AH} {Q:V->AH->Prop} {r:Row} {c:Cnd} (e:idxF (rowL r) (1:Nat)=some (.str c.s))
    (q:rest (CN (n+1)) (f_branch_reads.body.drop 2) (fun o uu H'=>Q o.val H') [some (rowV r),some (.int (condN c)),none] H):CN (n+2) "branch_reads" [rowV r] H Q:=by
  refine call_of rfl rfl (r_assign ev_int (r_if CN_Mono (evt_call (evs_cons (at_row (k:=1) rfl e) evs_nil) is_conditional_ev rfl) (fun hc=>r_assign (ev_bit (r:=17) ev_glob (by decide)) ?_) fun hc=>?_))
  · rw [<- condN_of,hc] at q; exact q
  · rw [<- condN_of,hc] at q; exact q
theorem nm_t {C:Cl} {H:AH} {ρ:Env} {i:Nat} {x y:String} {d:Bool} (h:getV ρ i=some (.str x)) (e:(x == y)=d):EvT C (.cmp (.var i) [.eq] [.str y]) ρ H d:=e ▸ evt_cmp (ev_var h) ev_str rfl
theorem branch_reads_ev {n:Nat} {H:AH} {r:Row} (hr:match r with | .br .. | .trap .. | .ret ..=>True | _=>False):EvF (CN (n+2)) "branch_reads" [rowV r] H (.int (readsN r)):=fun Q q=>by
  rcases r with ⟨op,a,b,c⟩ | ⟨op,a,b,c⟩ | ⟨op,a,c⟩ | ⟨c,off⟩ | ⟨c,en,ep⟩ | ⟨c⟩ <;> try exact hr.elim
  · refine branch_go (c:=c) rfl (r_assign (at_row (k:=0) rfl rfl) ?_)
    refine r_ifF CN_Mono (evt_or (evo_f (nm_t rfl rfl) (evo_f (nm_t rfl rfl) (evo_f (evt_and (evt_f (nm_t rfl rfl))) evo_nil)))) ?_
    refine r_ifF CN_Mono (evt_or (evo_f (nm_t rfl rfl) (evo_f (nm_t rfl rfl) evo_nil))) ?_
    exact r_ifF CN_Mono (evt_and (evt_f (nm_t rfl rfl))) (r_ret (ev_var rfl) q)
  · refine branch_go (c:=c) rfl (r_assign (at_row (k:=0) rfl rfl) ?_)
    have fin:∀ {k:Nat},readsN (.trap c en ep)=k->rest (CN (n+1)) (f_branch_reads.body.drop 4) (fun o uu H'=>Q o.val H') [some (rowV (.trap c en ep)),some (.int k),some (.str "TRAP")] H:=fun e=>
      r_ifF CN_Mono (evt_or (evo_f (nm_t rfl rfl) (evo_f (nm_t rfl rfl) evo_nil))) (r_ifF CN_Mono (evt_and (evt_f (nm_t rfl rfl))) (r_ret (ev_var rfl) (e ▸ q)))
    refine r_if CN_Mono (evt_or (evo_f (nm_t rfl rfl) (evo_f (nm_t rfl rfl) (evo_c (evt_and (evt_t (nm_t rfl rfl) (evt_c (evt_cmp (at_row (r:=.trap c en ep) (k:=2) rfl rfl) ev_int (c:=en == 0) rfl) evt_nil))) evo_nil)))) (fun hc=>?_) fun hc=>?_
    · have he:en=0:=by simpa using hc
      exact r_assign (ev_lor (y:=26624) (ev_var rfl) ev_glob) (fin (if_pos he))
    · have he:en ≠ 0:=by simpa using hc
      exact fin (if_neg he)
  · refine branch_go (c:=c) rfl (r_assign (at_row (k:=0) rfl rfl) ?_)
    refine r_ifF CN_Mono (evt_or (evo_f (nm_t rfl rfl) (evo_f (nm_t rfl rfl) (evo_f (evt_and (evt_f (nm_t rfl rfl))) evo_nil)))) ?_
    refine r_ifT CN_Mono (evt_or (evo_f (nm_t rfl rfl) (evo_t (nm_t rfl rfl)))) (r_assign (ev_lor (ev_var rfl) (ev_bit (r:=15) (at_row (r:=.ret c) (k:=2) rfl rfl) (by decide))) ?_)
    refine r_ifT CN_Mono (evt_and (evt_t (nm_t rfl rfl) (evt_t (evt_cmp (at_row (r:=.ret c) (k:=2) rfl rfl) ev_glob rfl) evt_nil))) (r_assign (ev_lor (ev_lor (y:=26624) (ev_var rfl) ev_glob) (ev_bit (r:=0) ev_int (by decide))) (r_ret (ev_var rfl) q))
end Mine.Wk
end
section
namespace Mine.Wk
open PySem
theorem nFT:¬ (false=true):=nofun
theorem nTF:¬ (true=false):=nofun
theorem in_names {C:Cl} {H:AH} {ρ:Env} {x:String} {es:List ME} {l:List String} {d:Bool} (h:getV ρ 1=some (.str x)) (k:Evs C es ρ H (l.map V.str)) (e:l.contains x=d):EvT C (.cmp (.var 1) [.isin] [.tup es]) ρ H d:=e ▸ evt_cmp (ev_var h) (ev_tup k) (anyF_strs l)
theorem name_at {n j:Nat} {H:AH} {r:Row} {ρ:Env} (h:getV ρ j=some (rowV r)):Ev (CN n) (.sub (.var j) (.int 0)) ρ H (.str (rowName r)) :=
  at_row (k:=0) h (by rcases r with uu | uu | uu | uu | uu | uu <;> rfl)
noncomputable def memName (r:Row):Bool:=["LDR", "LDB", "STR", "STB"].contains (rowName r)
noncomputable def brName (r:Row):Bool:=["B", "BL", "BR", "BLR", "TRAP"].contains (rowName r)
theorem reads_ev {n:Nat} {H:AH} {r:Row} (hr:rOk r):EvF (CN (n+3)) "reads" [rowV r] H (.int (readsN r)):=fun Q q=>by
  refine call_of rfl rfl (r_assign (name_at rfl) ?_)
  refine r_if CN_Mono (in_names (l:=["LDR", "LDB", "STR", "STB"]) (d:=memName r) rfl (evs_cons ev_str (evs_cons ev_str (evs_cons ev_str (evs_cons ev_str evs_nil)))) rfl) (fun hc=>?_) fun h1=>?_
  · rcases r with ⟨⟨⟩,a,b,c⟩ | ⟨⟨⟩,a,b,c⟩ | ⟨op,a,c⟩ | uu | uu | uu <;> try exact absurd hc nFT
    exact r_ret (ev_call (evs_cons (ev_var rfl) evs_nil) (memory_reads_ev hr.1)) q
  refine r_if CN_Mono (in_names (l:=["B", "BL", "BR", "BLR", "TRAP"]) (d:=brName r) rfl (evs_cons ev_str (evs_cons ev_str (evs_cons ev_str (evs_cons ev_str (evs_cons ev_str evs_nil))))) rfl) (fun hc=>?_) fun h2=>?_
  · refine r_ret (ev_call (evs_cons (ev_var rfl) evs_nil) (branch_reads_ev ?_)) q
    rcases r with ⟨⟨⟩,a,b,c⟩ | ⟨⟨⟩,a,b,c⟩ | ⟨⟨⟩,a,c⟩ | uu | uu | uu <;> first | exact trivial | exact absurd hc nFT
  have reg:∀ {op:ROp} {a b c:Nat},r = .reg op a b c->Ev (CN (n+2)) (.call "bit" [.sub (.var 0) (.int 3)]) [some (rowV r),some (.str (rowName r))] H (.int ((2 ^ c:Nat):Int)):=fun e=>by
    subst e; exact ev_bit (at_row (k:=3) rfl rfl) (le4 hr.2.2)
  refine r_if CN_Mono (nm_t (d:=rowName r == "MOV") rfl rfl) (fun hc=>?_) fun h3=>?_
  · rcases r with ⟨⟨⟩,a,b,c⟩ | ⟨⟨⟩,a,b,c⟩ | ⟨⟨⟩,a,c⟩ | uu | uu | uu <;> try exact absurd hc nFT
    exact r_ret (reg rfl) q
  refine r_ifF CN_Mono (nm_t (y := "GETH") rfl (by rcases r with ⟨⟨⟩,a,b,c⟩ | ⟨⟨⟩,a,b,c⟩ | ⟨⟨⟩,a,c⟩ | uu | uu | uu <;> rfl)) ?_
  refine r_if CN_Mono (evt_call (evs_cons (ev_var rfl) evs_nil) is_register_ev rfl) (fun hc=>?_) fun h4=>?_
  · rcases r with ⟨op,a,b,c⟩ | ⟨⟨⟩,a,b,c⟩ | ⟨⟨⟩,a,c⟩ | uu | uu | uu <;> try exact absurd hc nFT
    refine r_ret (ev_lor (ev_bit (r:=b) (at_row (k:=2) rfl rfl) (le4 hr.2.1)) (reg rfl)) ?_
    rcases op with ⟨⟩
    · exact absurd h3 nTF
    all_goals exact q
  refine r_if CN_Mono (evt_call (evs_cons (ev_var rfl) evs_nil) is_immediate_ev rfl) (fun hc=>?_) fun h5=>?_
  · rcases r with uu | ⟨op,a,b,c⟩ | uu | uu | uu | uu <;> try exact absurd hc nFT
    refine r_ret (ev_bit (r:=b) (at_row (k:=2) rfl rfl) (le4 hr.2)) ?_
    rcases op with ⟨⟩
    · exact q
    · exact q
    · exact absurd hc nFT
    all_goals exact q
  · refine r_ret ev_int ?_
    rcases r with ⟨⟨⟩,a,b,c⟩ | ⟨⟨⟩,a,b,c⟩ | ⟨⟨⟩,a,c⟩ | uu | uu | uu <;> first | exact q | exact absurd h1 nTF | exact absurd h2 nTF | exact absurd h3 nTF | exact absurd h4 nTF | exact absurd h5 nTF
noncomputable def writesN:Row->Nat
  | .reg _ a _ _=>2 ^ a ||| 2 ^ 17
  | .imm _ a _ _=>2 ^ a ||| 2 ^ 17
  | .mem .LDR a _=>2 ^ a
  | _=>0
theorem second {n:Nat} {H:AH} {r:Row} {a:Nat} {ρ:Env} (h:getV ρ 0=some (rowV r)) (e:idxF (rowL r) (1:Nat)=some (.int a)) (ha:a<4):Ev (CN (n+1)) (.call "bit" [.sub (.var 0) (.int 1)]) ρ H (.int ((2 ^ a:Nat):Int)):=ev_bit (at_row (k:=1) h e) (le4 ha)
theorem writes_ev {n:Nat} {H:AH} {r:Row} (hr:rOk r):EvF (CN (n+4)) "writes" [rowV r] H (.int (writesN r)):=fun Q q=>by
  refine call_of rfl rfl (r_assign (name_at rfl) ?_)
  refine r_if CN_Mono (evt_or (evo_c (nm_t (d:=rowName r == "LDR") rfl rfl) (evo_c (nm_t (d:=rowName r == "LDB") rfl rfl) evo_nil))) (fun hc=>?_) fun h1=>?_
  · rcases r with ⟨⟨⟩,a,b,c⟩ | ⟨⟨⟩,a,b,c⟩ | ⟨⟨⟩,a,c⟩ | uu | uu | uu <;> try exact absurd hc nFT
    exact r_ret (second rfl rfl hr.1) q
  refine r_ifF CN_Mono (evt_or (evo_f (nm_t (y := "BL") rfl (by rcases r with ⟨⟨⟩,a,b,c⟩ | ⟨⟨⟩,a,b,c⟩ | ⟨⟨⟩,a,c⟩ | uu | uu | uu <;> rfl)) (evo_f (nm_t (y := "BLR") rfl (by rcases r with ⟨⟨⟩,a,b,c⟩ | ⟨⟨⟩,a,b,c⟩ | ⟨⟨⟩,a,c⟩ | uu | uu | uu <;> rfl)) evo_nil))) ?_
  refine r_if CN_Mono (nm_t (d:=rowName r == "TRAP") rfl rfl) (fun hc=>?_) fun h2=>?_
  · rcases r with ⟨⟨⟩,a,b,c⟩ | ⟨⟨⟩,a,b,c⟩ | ⟨⟨⟩,a,c⟩ | uu | ⟨c,en,ep⟩ | uu <;> try exact absurd hc nFT
    have he:(en == 0)=false:=beq_eq_false_iff_ne.mpr hr
    refine r_ret (ev_iteF (evt_and ?_) ev_int) q
    have t:EvT (CN (n+3)) (.cmp (.sub (.var 0) (.int 1)) [.eq] [.str "AL"]) [some (rowV (.trap c en ep)),some (.str "TRAP")] H (c.s == "AL"):=evt_cmp (at_row (r:=.trap c en ep) (k:=1) rfl rfl) ev_str rfl
    rcases ht:c.s == "AL" with uu | uu <;> rw [ht] at t
    · exact evt_f t
    · exact evt_t t (evt_f (evt_cmp (at_row (r:=.trap c en ep) (k:=2) rfl rfl) ev_int (congrArg some he)))
  refine r_if CN_Mono (evt_not (evt_call (evs_cons (ev_var rfl) evs_nil) sets_flags_ev rfl)) (fun hc=>r_ret ev_int ?_) fun h3=>?_
  · rcases r with uu | uu | ⟨⟨⟩,a,c⟩ | uu | uu | uu <;> first | exact absurd hc nFT | exact q | exact absurd h1 nTF
  have key:∀ {a:Nat},idxF (rowL r) (1:Nat)=some (.int a)->a<4->writesN r=2 ^ a ||| 2 ^ 17->rest (CN (n+3)) (f_writes.body.drop 5) (fun o uu H'=>Q o.val H') [some (rowV r),some (.str (rowName r)),none] H:=fun e ha w=>
    r_assign (ev_lor (second rfl e ha) (ev_bit (r:=17) ev_glob (by decide))) (r_ifF CN_Mono (in_names (l:=["MUL", "MULI", "DIV", "DIVI"]) rfl (evs_cons ev_str (evs_cons ev_str (evs_cons ev_str (evs_cons ev_str evs_nil)))) (by rcases r with ⟨⟨⟩,a,b,c⟩ | ⟨⟨⟩,a,b,c⟩ | ⟨⟨⟩,a,c⟩ | uu | uu | uu <;> rfl)) (r_ret (ev_var rfl) (w ▸ q)))
  rcases r with ⟨op,a,b,c⟩ | ⟨op,a,b,c⟩ | uu | uu | uu | uu <;> try exact absurd h3 nTF
  · exact key rfl hr.1 rfl
  · exact key rfl hr.1 rfl
noncomputable def liveN (r:Row) (k:Nat):Nat:=(k - (k &&& writesN r)) ||| readsN r
theorem live_before_ev {n:Nat} {H:AH} {r:Row} {k:Nat} (hr:rOk r):EvF (CN (n+5)) "live_before" [rowV r,.int k] H (.int (liveN r k)):=fun Q q=>by
  have a:Ev (CN (n+4)) (.bin .land (.var 1) (.inv (.call "writes" [.var 0]))) [some (rowV r),some (.int k)] H (.int ((k - (k &&& writesN r):Nat):Int)):=by
    have:=ev_bin (op:=.land) (C:=CN (n+4)) (ρ:=[some (rowV r),some (.int k)]) (H:=H) (ev_var (i:=1) rfl) (ev_inv (ev_call (evs_cons (ev_var (i:=0) rfl) evs_nil) (writes_ev hr))) (v:=.int (Spec.bitAnd k (Spec.bitNot (writesN r)))) rfl
    rwa [bandn] at this
  exact call_of rfl rfl (r_ret (ev_lor a (ev_call (evs_cons (ev_var rfl) evs_nil) (reads_ev hr))) q)
theorem is_live_ev {n:Nat} {H:AH} {k:Nat}:EvF (CN (n+1)) "is_live" [.int k,.int 17] H (.bool (k.testBit 17)):=fun Q q=>by
  refine callN_of rfl rfl ?_
  have e:Spec.bitAnd ((k:Int).fdiv 131072) 1=((k / 131072 &&& 1:Nat):Int):=by
    rw [<- band (k / 131072) 1,Int.fdiv_eq_ediv_of_nonneg _ (by decide)]; rfl
  have e2:(((k / 131072 &&& 1:Nat):Int) == 1)=k.testBit 17:=by
    rw [Nat.testBit_eq_decide_div_mod_eq,Nat.and_one_is_mod,ibeq]
    exact decide_eq_decide.mpr Int.ofNat_inj
  rw [<- e2,<- e] at q
  exact Eq.mp (by kernel_rfl) q
end Mine.Wk
end
section
namespace Mine.Wk
open PySem
structure Made (H:AH) (a:Nat) (o:AO) (H':AH):Prop where
  n:H a=none
  e:Ext H H'
  g:H' a=some o
theorem New.made {H H1 H2:AH} {a:Nat} {o:AO} (N:New H1 a o H2) (e:Ext H H1):Made H a o H2:=⟨e.none N.n,e.trans N.e,N.g⟩
structure Mut (H:AH) (a:Nat) (o:AO) (H':AH):Prop where
  g:H' a=some o
  o:∀ b,b ≠ a->H' b=H b
theorem Mut.mk' {H:AH} {a:Nat} {o:AO}:Mut H a o (H.set a o):=⟨set_same,fun b=>set_other⟩
theorem Mut.ext {H H1 H2:AH} {f:Nat} {o:AO} (m:Mut H1 f o H2) (e:Ext H H1) (hf:H f=Option.none):Ext H H2:=fun b o hb=>(m.o b (ne_of_none hb hf)).trans (e _ _ hb)
section
variable {C:Cl} {ρ:Env} {H:AH} {Q:PO} {ss:List MS} {e o i:ME} {a b:Nat} {xs ys:List V} {v:V} {is:List Int} {kvs:List (Int × V)} {fz:Bool}
theorem append_k (h:H a=some (.list xs)):kindM (.ref a) "append" H=true:=congrArg (kindO "append") h
theorem append_m (h:H a=some (.list xs)) (hl:xs.length<10000):methF (.ref a) "append" [v] H=some (.none,H.set a (.list (xs ++ [v]))):=(congrArg (methO H a "append" [v]) h).trans (if_pos hl)
theorem r_append (h1:Ev C o ρ H (.ref a)) (g:H a=some (.list xs)) (hl:xs.length<10000) (h2:Ev C e ρ H v) (k:∀ H',Mut H a (.list (xs ++ [v])) H'->rest C ss Q ρ H'):rest C (.expr (.meth o "append" [e])::ss) Q ρ H :=
  r_meth h1 (append_k g) (evs_cons h2 evs_nil) (append_m g hl) (k _ .mk')
theorem extend_k (h:H a=some (.list xs)):kindM (.ref a) "extend" H=true:=congrArg (kindO "extend") h
theorem extend_m (h:H a=some (.list xs)) (h2:H b=some (.list ys)) (hl:xs.length+ys.length<10000) (hn:a ≠ b):methF (.ref a) "extend" [.ref b] H=some (.none,H.set a (.list (xs ++ ys))):=by
  refine (congrArg (methO H a "extend" [.ref b]) h).trans ?_
  show (listAt H b).bind _=_
  exact bind_of (listAt_of h2) (if_pos ⟨hl,hn⟩)
theorem pop_k (h:H a=some (.list xs)):kindM (.ref a) "pop" H=true:=congrArg (kindO "pop") h
theorem pop_m (h:H a=some (.list (xs ++ [v]))) (hl:xs.length+1<10000):methF (.ref a) "pop" [] H=some (v,H.set a (.list xs)):=by
  refine (congrArg (methO H a "pop" []) h).trans (bind_of (x:=v) List.getLast?_concat ?_)
  rw [if_pos (by rw [List.length_append]; exact hl),List.dropLast_concat]
theorem get_k (h:H a=some (.di fz kvs)):kindM (.ref a) "get" H=true:=congrArg (kindO "get") h
theorem get_m {k:Int} {d:V} (h:H a=some (.di fz kvs)):methF (.ref a) "get" [.int k,d] H=some ((dget kvs k).getD d,H):=congrArg (methO H a "get" [.int k,d]) h
theorem store_di {k:Int} (h:H a=some (.di false kvs)) (hl:kvs.length<=10000):storeF (.ref a) (.int k) v H=some (H.set a (.di false (dset kvs k v))):=(congrArg (storeI H a k v) h).trans (if_pos ⟨rfl,hl⟩)
theorem store_ds {xs:List (String × V)} {k:String} (h:H a=some (.ds false xs)) (hl:xs.length<=10000):storeF (.ref a) (.str k) v H=some (H.set a (.ds false (dset xs k v))):=(congrArg (storeS H a k v) h).trans (if_pos ⟨rfl,hl⟩)
theorem store_list {k:Nat} (h:H a=some (.list xs)) (hl:k<xs.length) (hk:k<100000):storeF (.ref a) (.int (k:Int)) v H=some (H.set a (.list (xs.set k v))) :=
  (congrArg (storeI H a k v) h).trans (if_pos ⟨Int.natCast_nonneg k,Int.ofNat_lt.mpr hl,Int.ofNat_lt.mpr hk⟩)
theorem r_storeDi {k:Int} (h1:Ev C e ρ H v) (h2:Ev C o ρ H (.ref a)) (h3:Ev C i ρ H (.int k)) (g:H a=some (.di false kvs)) (hl:kvs.length<=10000) (q:∀ H',Mut H a (.di false (dset kvs k v)) H'->rest C ss Q ρ H'):rest C (.setSub o i e::ss) Q ρ H :=
  r_setSub h1 h2 h3 (store_di g hl) (q _ .mk')
theorem r_storeList {k:Nat} (h1:Ev C e ρ H v) (h2:Ev C o ρ H (.ref a)) (h3:Ev C i ρ H (.int k)) (g:H a=some (.list xs)) (hl:k<xs.length) (hk:k<100000) (q:∀ H',Mut H a (.list (xs.set k v)) H'->rest C ss Q ρ H'):rest C (.setSub o i e::ss) Q ρ H :=
  r_setSub h1 h2 h3 (store_list g hl hk) (q _ .mk')
theorem sorted_list (h:H a=some (.list (is.map V.int))) (hl:is.length<64):biF "sorted" [.ref a] H=some (.new (.list ((sortI is).map V.int))):=by
  show (sortO (H a)).bind _=_
  exact bind_of (x:=is) ((congrArg sortO h).trans intsOf_map) (if_pos hl)
theorem sorted_di (h:H a=some (.di fz kvs)) (hl:kvs.length<64):biF "sorted" [.ref a] H=some (.new (.list ((sortI (kvs.map (·.1))).map V.int))):=by
  show (sortO (H a)).bind _=_
  exact bind_of (show sortO (H a)=some (kvs.map (·.1)) from congrArg sortO h) (if_pos (by rw [List.length_map]; exact hl))
end
theorem name_B {r:Row}:(rowName r == "B")=isBr r:=by rcases r with ⟨⟨⟩,a,b,c⟩ | ⟨⟨⟩,a,b,c⟩ | ⟨⟨⟩,a,c⟩ | uu | uu | uu <;> rfl
theorem name_BL {r:Row}:(rowName r == "BL")=false:=by rcases r with ⟨⟨⟩,a,b,c⟩ | ⟨⟨⟩,a,b,c⟩ | ⟨⟨⟩,a,c⟩ | uu | uu | uu <;> rfl
theorem sub_row {H:AH} {a i:Nat} {R:List Row} {r:Row} (hR:H a=some (.list (R.map rowV))) (hi:R[i]? = some r) (hl:R.length<=40):subF (.ref a) (.int i) H=some (rowV r):=by
  rw [sub_list hR,idx_cast (Nat.lt_trans (List.getElem?_eq_some_iff.mp hi).1 (Nat.lt_of_le_of_lt hl (by decide))),List.getElem?_map,hi]; rfl
theorem row_at {C:Cl} {ρ:Env} {H:AH} {x y a i:Nat} {R:List Row} {r:Row} (h1:getV ρ x=some (.ref a)) (h2:getV ρ y=some (.int i)) (hR:H a=some (.list (R.map rowV))) (hi:R[i]? = some r) (hl:R.length<=40):Ev C (.sub (.var x) (.var y)) ρ H (rowV r) :=
  ev_sub (ev_var h1) (ev_var h2) (sub_row hR hi hl)
theorem len_at {C:Cl} {ρ:Env} {H:AH} {x a:Nat} {R:List Row} (h1:getV ρ x=some (.ref a)) (hR:H a=some (.list (R.map rowV))) (hl:R.length<=40):Ev C (.bi "len" [.var x]) ρ H (.int R.length) :=
  ev_bi (evs_cons (ev_var h1) evs_nil) (len_map hR (Nat.le_trans hl (by decide)))
theorem falls_at {n:Nat} {ρ:Env} {H:AH} {x:Nat} {r:Row} (h:getV ρ x=some (rowV r)):EvT (CN (n+1)) (.call "falls_through" [.var x]) ρ H (fallsF r):=evt_call (evs_cons (ev_var h) evs_nil) (fun uu q=>falls_spec q) rfl
theorem jump_at {n:Nat} {ρ:Env} {H:AH} {x:Nat} {c:Cnd} {off:Int} (h:getV ρ x=some (rowV (.br c off))):EvT (CN (n+1)) (.call "can_jump" [.var x]) ρ H (jumps (.br c off)):=evt_call (evs_cons (ev_var h) evs_nil) (fun uu q=>can_jump_spec q) rfl
theorem target_at {n:Nat} {ρ:Env} {H:AH} {x y:Nat} {c:Cnd} {i off:Int} (h:getV ρ x=some (rowV (.br c off))) (h2:getV ρ y=some (.int i)):Ev (CN (n+1)) (.call "target_of" [.var x,.var y]) ρ H (.int (i+1+off)):=ev_call (evs_cons (ev_var h) (evs_cons (ev_var h2) evs_nil)) fun uu q=>target_of_spec q
theorem lt_t {C:Cl} {ρ:Env} {H:AH} {a b:ME} {x y:Int} (h1:Ev C a ρ H (.int x)) (h2:Ev C b ρ H (.int y)):EvT C (.cmp a [.lt] [b]) ρ H (decide (x<y)):=evt_cmp h1 h2 rfl
theorem le_t {C:Cl} {ρ:Env} {H:AH} {a b:ME} {x y:Int} (h1:Ev C a ρ H (.int x)) (h2:Ev C b ρ H (.int y)):EvT C (.cmp a [.le] [b]) ρ H (decide (x<=y)):=evt_cmp h1 h2 rfl
theorem add_at {C:Cl} {ρ:Env} {H:AH} {a b:ME} {x y:Int} (h1:Ev C a ρ H (.int x)) (h2:Ev C b ρ H (.int y)):Ev C (.bin .add a b) ρ H (.int (x+y)):=ev_bin h1 h2 rfl
noncomputable def succ1 (n i:Nat) (r:Row):List Int:=if (fallsF r && (decide ((i:Int)+1<n) && true))=true then [(i:Int)+1] else []
noncomputable def succB (n i:Nat) (c:Cnd) (off:Int):List Int:=if (jumps (.br c off) && true)=true/\(decide (0<=(i:Int)+1+off) && (decide ((i:Int)+1+off<n) && (!decide ((i:Int)+1+off ∈ succ1 n i (.br c off)) && true)))=true then succ1 n i (.br c off) ++ [(i:Int)+1+off] else succ1 n i (.br c off)
noncomputable def succU (n i:Nat):Row->List Int
  | .br c off=>succB n i c off
  | r=>succ1 n i r
theorem succ1_len {n i:Nat} {r:Row}:(succ1 n i r).length<=1:=by unfold succ1; split <;> simp
theorem succU_base {n i:Nat} {r:Row} (h:isBr r=false):succU n i r=succ1 n i r:=by rcases r with uu | uu | uu | uu | uu | uu <;> first | rfl | exact absurd h nTF
theorem succU_len {n i:Nat} {r:Row}:(succU n i r).length<=2:=by
  have h:=succ1_len (n:=n) (i:=i) (r:=r)
  rcases r with uu | uu | uu | ⟨c,off⟩ | uu | uu <;> try exact Nat.le_succ_of_le h
  show (succB n i c off).length<=2
  unfold succB
  split
  · rw [List.length_append]; exact Nat.succ_le_succ h
  · exact Nat.le_succ_of_le h
theorem succ1_mem {n i:Nat} {r:Row} {x:Int}:x ∈ succ1 n i r ↔ fallsF r=true/\(i:Int)+1<n/\x=(i:Int)+1:=by
  unfold succ1
  rw [Bool.and_true]
  split
  · rename_i h; rw [Bool.and_eq_true,decide_eq_true_eq] at h; exact ⟨fun e=>⟨h.1,h.2,List.mem_singleton.mp e⟩,fun e=>List.mem_singleton.mpr e.2.2⟩
  · rename_i h; rw [Bool.and_eq_true,decide_eq_true_eq] at h; exact ⟨fun e=>(List.not_mem_nil e).elim,fun e=>(h ⟨e.1,e.2.1⟩).elim⟩
theorem succU_br {n i:Nat} {c:Cnd} {off x:Int}:x ∈ succU n i (.br c off) ↔ x ∈ succ1 n i (.br c off) \/ (c ≠ .NV/\0<=(i:Int)+1+off/\(i:Int)+1+off<n/\x=(i:Int)+1+off):=by
  show x ∈ succB n i c off ↔ _
  unfold succB
  rw [Bool.and_true,Bool.and_true]
  split
  · rename_i h
    obtain ⟨h1,h2⟩:=h
    rw [Bool.and_eq_true,Bool.and_eq_true,decide_eq_true_eq,decide_eq_true_eq] at h2
    rw [List.mem_append,List.mem_singleton]
    exact or_congr Iff.rfl ⟨fun e=>⟨of_decide_eq_true h1,h2.1,h2.2.1,e⟩,fun e=>e.2.2.2⟩
  · rename_i h
    refine ⟨.inl,fun e=>e.elim id fun e=>Classical.byContradiction fun hm=>h ⟨decide_eq_true e.1,?_⟩⟩
    rw [Bool.and_eq_true,Bool.and_eq_true,decide_eq_true_eq,decide_eq_true_eq]
    exact ⟨e.2.1,e.2.2.1,by rw [decide_eq_false (e.2.2.2 ▸ hm)]; rfl⟩
theorem succU_range {n i:Nat} {r:Row} {x:Int} (h:x ∈ succU n i r):0<=x/\x<n:=by
  have one:∀ {r:Row},x ∈ succ1 n i r->0<=x/\x<n:=fun h=>by obtain ⟨uu,h2,rfl⟩:=succ1_mem.mp h; exact ⟨Int.add_nonneg (Int.natCast_nonneg i) (by decide),h2⟩
  rcases r with uu | uu | uu | ⟨c,off⟩ | uu | uu <;> try exact one h
  exact (succU_br.mp h).elim one fun e=>e.2.2.2 ▸ ⟨e.2.1,e.2.2.1⟩
theorem lt64 {n:Nat} (h:n<=2):n<64:=Nat.lt_of_le_of_lt h (by decide)
theorem any_ints {x:Int}:∀ (l:List Int),anyF (.int x) (l.map V.int)=some (decide (x ∈ l))
  | []=>rfl
  | y::l=>by
    rw [List.map_cons,anyF,eqP,any_ints l]
    show some ((y == x) || decide (x ∈ l))=_
    congr 1
    rw [ibeq,<- Bool.decide_or]
    exact decide_eq_decide.mpr ⟨fun h=>h.elim (fun e=>e ▸ .head _) (.tail _),fun h=>(List.mem_cons.mp h).imp Eq.symm id⟩
theorem successors_spec {n:Nat} {H:AH} {Q:V->AH->Prop} {a i:Nat} {R:List Row} {r:Row} (hR:H a=some (.list (R.map rowV))) (hi:R[i]? = some r) (hl:R.length<=40)
    (q:∀ b H',Made H b (.list ((sortI (succU R.length i r)).map V.int)) H'->Q (.ref b) H'):CN (n+2) "successors" [.ref a,.int i] H Q:=by
  refine call_of rfl rfl (r_assign (row_at rfl rfl hR hi hl) (r_new (evn_list evs_nil) fun f H1 N=>?_))
  have fin:∀ H3 (s:List Int) x4,s=succU R.length i r->Ext H H3->H3 f=some (.list (s.map V.int))->rest (CN (n+1)) (f_successors.body.drop 4) (fun o uu H'=>Q o.val H') [some (.ref a),some (.int i),some (rowV r),some (.ref f),x4] H3:=fun H3 s x4 hs e3 g3=>
    r_retN (evn_bi (evs_cons (ev_var rfl) evs_nil) (sorted_list g3 (hs ▸ lt64 succU_len))) fun b H4 N4=>q b H4 (hs ▸ N4.made e3)
  have step:∀ H2,Ext H H2->H2 f=some (.list ((succ1 R.length i r).map V.int))->rest (CN (n+1)) (f_successors.body.drop 3) (fun o uu H'=>Q o.val H') [some (.ref a),some (.int i),some (rowV r),some (.ref f),none] H2:=by
    intro H2 e2 g2
    have hR2:=e2 _ _ hR
    rcases hB:isBr r with uu | uu
    · exact r_ifF CN_Mono (evt_and (evt_f (evt_cmp (name_at rfl) ev_str (congrArg some (name_B.trans hB))))) (fin _ _ _ (succU_base hB).symm e2 g2)
    · rcases r with uu | uu | uu | ⟨c,off⟩ | uu | uu <;> try exact absurd hB nFT
      have j0:=jump_at (n:=n) (ρ:=[some (.ref a),some (.int i),some (rowV (.br c off)),some (.ref f),none]) (H:=H2) (x:=2) (c:=c) (off:=off) rfl
      refine r_if CN_Mono (evt_and (evt_t (evt_cmp (name_at rfl) ev_str rfl) (evt_c j0 evt_nil))) (fun hc=>r_assign (target_at rfl rfl) ?_) fun hc=>fin _ _ _ (if_neg fun h=>absurd (hc.symm.trans h.1) nFT).symm e2 g2
      refine r_if CN_Mono (evt_and (evt_c (le_t ev_int (ev_var rfl)) (evt_c (lt_t (ev_var rfl) (len_at rfl hR2 hl)) (evt_c (evt_cmp (op:=.notin) (ev_var rfl) (ev_var rfl) (c:=!decide ((i:Int)+1+off ∈ succ1 R.length i (.br c off))) (by rw [cm_notin,in_list g2,any_ints]; rfl)) evt_nil)))) (fun ht=>?_) fun ht=>?_
      · refine r_append (ev_var rfl) g2 (by rw [List.length_map]; exact Nat.lt_of_le_of_lt succ1_len (by decide)) (ev_var rfl) fun H3 m3=>fin _ _ _ (if_pos ⟨hc,ht⟩).symm (m3.ext e2 N.n) (by rw [m3.g,List.map_append]; rfl)
      · exact fin _ _ _ (if_neg fun h=>absurd (ht.symm.trans h.2) nFT).symm e2 g2
  refine r_if CN_Mono (evt_and (evt_c (falls_at rfl) (evt_c (lt_t (add_at (ev_var rfl) ev_int) (len_at rfl (N.e _ _ hR) hl)) evt_nil))) (fun hc=>?_) fun hc=>?_
  · exact r_append (ev_var rfl) N.g (by decide) (add_at (ev_var rfl) ev_int) fun H2 m2=>step H2 (m2.ext N.e N.n) (by rw [m2.g,succ1,if_pos hc]; rfl)
  · exact step H1 N.e (by rw [N.g,succ1,if_neg fun h=>absurd (hc.symm.trans h) nFT]; rfl)
end Mine.Wk
end
section
namespace Mine.Wk
open PySem
theorem evt_ch {C:Cl} {ρ:Env} {H:AH} {a b c:ME} {x y z:V} {p q:COp} {d e:Bool} (h1:Ev C a ρ H x) (h2:Ev C b ρ H y) (k1:cmpF p x y H=some d) (h3:Ev C c ρ H z) (k2:cmpF q y z H=some e):EvT C (.cmp a [p,q] [b,c]) ρ H (d && e):=fun Q w=>h1 _ (h2 _ (by
  rw [k1]
  rcases d with uu | uu
  · exact w
  · exact h3 _ (iB k2 w)))
theorem ev_and2 {C:Cl} {ρ:Env} {H:AH} {a b:ME} {c d:Bool} (h1:Ev C a ρ H (.bool c)) (h2:Ev C b ρ H (.bool d)):Ev C (.and [a,b]) ρ H (.bool (c && d)):=fun Q q=>h1 _ (by
  rcases c with uu | uu
  · exact q
  · exact h2 _ q)
theorem called_spec {n:Nat} {H:AH} {Q:V->AH->Prop} {a i:Nat} {R:List Row} {r:Row} (hR:H a=some (.list (R.map rowV))) (hi:R[i]? = some r) (hl:R.length<=40)
    (q:∀ b H',Made H b (.list []) H'->Q (.ref b) H'):CN (n+2) "called_rows" [.ref a,.int i] H Q :=
  call_of rfl rfl (r_assign (row_at rfl rfl hR hi hl) (r_ifF CN_Mono (evt_and (evt_f (evt_cmp (name_at rfl) ev_str (congrArg some name_BL)))) (r_retN (evn_list evs_nil) fun b H' N=>q b H' (N.made .rfl))))
theorem not_e' {b:Bool} (h:(!b)=true):b=false:=by rcases b <;> first | rfl | exact h.symm
theorem not_f' {b:Bool} (h:(!b)=false):b=true:=by rcases b <;> first | rfl | exact h.symm
noncomputable def leavesF (n i:Nat) (r:Row):Bool:=match r with
  | .br c off=>if ¬ (0<=(i:Int)+1+off/\(i:Int)+1+off<n) then true else fallsF r && decide (n<=i+1)
  | _=>fallsF r && decide (n<=i+1)
theorem leaves_base {n i:Nat} {r:Row} (h:isBr r=false):leavesF n i r=(fallsF r && decide (n<=i+1)):=by rcases r with uu | uu | uu | uu | uu | uu <;> first | rfl | exact absurd h nTF
theorem leaves_spec {n:Nat} {H:AH} {Q:V->AH->Prop} {a i:Nat} {R:List Row} {r:Row} (hR:H a=some (.list (R.map rowV))) (hi:R[i]? = some r) (hl:R.length<=40)
    (q:Q (.bool (leavesF R.length i r)) H):CN (n+2) "leaves_unknown" [.ref a,.int i] H Q:=by
  have fin:leavesF R.length i r=(fallsF r && decide (R.length<=i+1))->rest (CN (n+1)) (f_leaves_unknown.body.drop 3) (fun o uu H'=>Q o.val H') [some (.ref a),some (.int i),some (rowV r)] H:=fun e=>by
    rw [e] at q
    refine r_ret (ev_and2 (ev_call (evs_cons (ev_var rfl) evs_nil) fun uu q=>falls_spec q) (ev_cmp (op:=.ge) (add_at (ev_var rfl) ev_int) (len_at rfl hR hl) (c:=decide (R.length<=i+1)) (congrArg some (decide_eq_decide.mpr (Int.ofNat_le (m:=R.length) (n:=i+1)))))) q
  refine call_of rfl rfl (r_assign (row_at rfl rfl hR hi hl) (r_ifF CN_Mono (evt_and ?_) ?_))
  · rcases r with ⟨⟨⟩,b,c,d⟩ | ⟨⟨⟩,b,c,d⟩ | ⟨⟨⟩,b,c⟩ | uu | uu | c <;> try exact evt_f (evt_cmp (name_at rfl) ev_str rfl)
    exact evt_t (evt_cmp (name_at rfl) ev_str rfl) (evt_f (evt_cmp (at_row (r:=.ret c) (k:=2) rfl rfl) ev_glob rfl))
  · rcases hB:isBr r with uu | uu
    · exact r_ifF CN_Mono (evt_and (evt_f (evt_cmp (name_at rfl) ev_str (congrArg some (name_B.trans hB))))) (fin (leaves_base hB))
    · rcases r with uu | uu | uu | ⟨c,off⟩ | uu | uu <;> try exact absurd hB nFT
      refine r_if CN_Mono (evt_and (evt_t (evt_cmp (name_at rfl) ev_str rfl) (evt_c (evt_not (evt_ch (p:=.le) (q:=.lt) (d:=decide (0<=(i:Int)+1+off)) (e:=decide ((i:Int)+1+off<R.length)) ev_int (target_at rfl rfl) rfl (len_at rfl hR hl) rfl)) evt_nil))) (fun hc=>r_ret ev_bool ?_) fun hc=>fin ?_
      · rw [Bool.and_true,<- Bool.decide_and] at hc
        have e:leavesF R.length i (.br c off)=true:=if_pos (of_decide_eq_false (not_e' hc))
        exact e ▸ q
      · rw [Bool.and_true,<- Bool.decide_and] at hc
        exact if_neg (fun h=>h (of_decide_eq_true (not_f' hc)))
structure Keys (D:List (Int × V)) (n:Nat):Prop where
  nd:(D.map (·.1)).Nodup
  rng:∀ x ∈ D.map (·.1),0<=x/\x<(n:Int)
noncomputable abbrev keys (D:List (Int × V)):List Int:=D.map (·.1)
theorem Keys.nil {n:Nat}:Keys [] n:=⟨.nil,List.forall_mem_nil _⟩
theorem Keys.set {D:List (Int × V)} {n:Nat} (h:Keys D n) {k:Int} {v:V} (h0:0<=k) (h1:k<n):Keys (dset D k v) n :=
  ⟨dset_nodup h.nd,fun x hx=>(dset_keys.mp hx).elim (h.rng x) fun e=>e ▸ ⟨h0,h1⟩⟩
theorem Keys.len {D:List (Int × V)} {n:Nat} (h:Keys D n):D.length<=n:=by have:=nodup_len n _ h.nd h.rng; rwa [List.length_map] at this
theorem map_get {α β:Type} {f:α->β} {l:List α} {k:Nat} {v:β} {P:Prop} (h:(l.map f)[k]? = some v) (q:∀ y,l[k]? = some y->f y=v->P):P:=by
  rw [List.getElem?_map,Option.map_eq_some_iff] at h
  exact h.elim fun y h=>q y h.1 h.2
theorem lt_succ_cases {j k:Nat} {P:Prop} (h:j<k+1) (h1:j<k->P) (h2:j=k->P):P:=(Nat.lt_or_eq_of_le (Nat.le_of_lt_succ h)).elim h1 h2
inductive TgI (H:AH) (a e d n:Nat) (E:List Int) (k:Nat) (ρ:Env) (H':AH):Prop
  | mk (x3:Option V) (D:List (Int × V)) (hρ:ρ = [some (.ref a),some (.ref e),some (.ref d),x3,none,none,none]) (e:Ext H H') (g:H' d=some (.di false D)) (hk:Keys D n) (h:∀ j<k,∀ x,E[j]? = some x->x ∈ keys D)
inductive TgJ (H:AH) (a e d:Nat) (x3:Option V) (R:List Row) (E:List Int) (k:Nat) (ρ:Env) (H':AH):Prop
  | mk (x4 x5 x6:Option V) (D:List (Int × V)) (hρ:ρ = [some (.ref a),some (.ref e),some (.ref d),x3,x4,x5,x6]) (e:Ext H H') (g:H' d=some (.di false D)) (hk:Keys D R.length) (hE:∀ x ∈ E,x ∈ keys D)
    (h:∀ j<k,∀ c off,R[j]? = some (.br c off)->c ≠ .NV->0<=(j:Int)+1+off->(j:Int)+1+off<R.length->(j:Int)+1+off ∈ keys D)
structure TgR (R:List Row) (E K:List Int):Prop where
  e:∀ x ∈ E,x ∈ K
  r:∀ x ∈ K,0<=x/\x<(R.length:Int)
  b:∀ (i:Nat) c off,R[i]? = some (.br c off)->c ≠ .NV->0<=(i:Int)+1+off->(i:Int)+1+off<R.length->(i:Int)+1+off ∈ K
  n:K.Nodup
theorem targets_spec {n:Nat} {H:AH} {Q:V->AH->Prop} {a e:Nat} {R:List Row} {E:List Int} (hR:H a=some (.list (R.map rowV))) (hE:H e=some (.list (E.map V.int))) (hl:R.length<=40)
    (hEr:∀ x ∈ E,0<=x/\x<(R.length:Int)) (q:∀ b H' (K:List Int),Made H b (.list (K.map V.int)) H'->TgR R E K->Q (.ref b) H'):CN (n+2) "targets" [.ref a,.ref e] H Q:=by
  refine call_of rfl rfl (r_new evn_dict0 fun d H1 N=>?_)
  have hE1:=N.e _ _ hE
  have le:∀ {D:List (Int × V)},Keys D R.length->D.length<=40:=fun hk=>Nat.le_trans hk.len hl
  refine r_for CN_Mono (ev_var rfl) (keys_list hE1) (iter_list hE1) (TgI H a e d R.length E) ?_ ?_ ⟨none,[],rfl,N.e,N.g,Keys.nil,fun j hj=>nomatch hj⟩ ?_
  · rintro k ρ H' ⟨x3,D,rfl,e2,g2,hk,hin⟩
    exact still_list (e2 _ _ hE)
  · rintro k x ρ H' hx ⟨x3,D,rfl,e2,g2,hk,hin⟩
    refine map_get hx fun y hy hv=>?_
    subst hv
    have hyr:=hEr y (List.mem_of_getElem? hy)
    refine ⟨_,rfl,r_storeDi ev_bool (ev_var rfl) (ev_var rfl) g2 (Nat.le_trans (le hk) (by decide)) fun H4 m4=>rest_nil ⟨some (.int y),_,rfl,m4.ext e2 N.n,m4.g,hk.set hyr.1 hyr.2,fun j hj z hz=>lt_succ_cases hj (fun h=>dset_keys.mpr (.inl (hin j h z hz))) fun h=>?_⟩⟩
    subst h
    exact dset_keys.mpr (.inr (Option.some.inj (hz.symm.trans hy)))
  · rintro ρ H' ⟨x3,D,rfl,e2,g2,hk,hin⟩
    rw [List.length_map] at hin
    have hin':∀ x ∈ E,x ∈ keys D:=fun x hx=>by
      obtain ⟨j,hj⟩:=List.getElem?_of_mem hx
      exact hin j (List.getElem?_eq_some_iff.mp hj).1 x hj
    refine r_for CN_Mono (ev_bi (evs_cons (len_at rfl (e2 _ _ hR) hl) evs_nil) (range1 (Nat.le_trans hl (by decide)))) keys_rng iter_rng (TgJ H a e d x3 R E) (fun uu uu uu uu=>still_rng) ?_ ⟨none,none,none,D,rfl,e2,g2,hk,hin',fun j hj=>nomatch hj⟩ ?_
    · rintro k x ρ H3 hx ⟨x4,x5,x6,D3,rfl,e3,g3,hk3,hin3,hbr⟩
      obtain ⟨rfl,hkl⟩:=rngL_get hx
      have hkl:k<R.length:=hkl
      have hR3:=e3 _ _ hR
      have hr:R[k]? = some R[k]:=List.getElem?_eq_getElem hkl
      rw [Int.zero_add]
      have same:∀ x5 x6,(∀ c off,R[k] = .br c off->c ≠ .NV->0<=(k:Int)+1+off->(k:Int)+1+off<R.length->False)->TgJ H a e d x3 R E (k+1) [some (V.ref a),some (V.ref e),some (V.ref d),x3,some (V.int k),x5,x6] H3:=fun y5 y6 hno=>
        ⟨_,_,_,D3,rfl,e3,g3,hk3,hin3,fun j hj c off h1 h2 h3 h4=>lt_succ_cases hj (fun h=>hbr j h c off h1 h2 h3 h4) fun h=>by
          subst h
          exact (hno c off (Option.some.inj (hr.symm.trans h1)) h2 h3 h4).elim⟩
      refine ⟨_,rfl,r_assign (row_at rfl rfl hR3 hr hl) ?_⟩
      have tb:EvT (CN (n+1)) (.call "is_branch" [.var 5]) [some (V.ref a),some (V.ref e),some (V.ref d),x3,some (V.int k),some (rowV R[k]),x6] H3 (isBr R[k]):=evt_call (evs_cons (ev_var rfl) evs_nil) (fun uu q=>is_branch_spec q) rfl
      rcases hB:isBr R[k] with uu | uu <;> rw [hB] at tb
      · exact r_ifF CN_Mono (evt_and (evt_f tb)) (rest_nil (same _ _ fun c off h=>absurd ((congrArg isBr h).symm.trans hB) nTF))
      · rcases hrk:R[k] with uu | uu | uu | ⟨c,off⟩ | uu | uu <;> try exact absurd ((congrArg isBr hrk).symm.trans hB) nFT
        rw [hrk] at tb hr
        refine r_if CN_Mono (evt_and (evt_t tb (evt_c (jump_at rfl) evt_nil))) (fun hc=>r_assign (target_at rfl rfl) ?_) fun hc=>rest_nil (same _ _ fun c' off' h h2 uu uu=>?_)
        · refine r_if CN_Mono (evt_and (evt_c (le_t ev_int (ev_var rfl)) (evt_c (lt_t (ev_var rfl) (len_at rfl hR3 hl)) evt_nil))) (fun ht=>?_) fun ht=>rest_nil (same _ _ fun c' off' h uu h0 h1=>?_)
          · rw [Bool.and_true,Bool.and_eq_true,decide_eq_true_eq,decide_eq_true_eq] at ht
            refine r_storeDi ev_bool (ev_var rfl) (ev_var rfl) g3 (Nat.le_trans (le hk3) (by decide)) fun H4 m4=>rest_nil ⟨_,_,_,_,rfl,m4.ext e3 N.n,m4.g,hk3.set ht.1 ht.2,fun x hx=>dset_keys.mpr (.inl (hin3 x hx)),fun j hj c' off' z1 h2 h3 h4=>lt_succ_cases hj (fun h=>dset_keys.mpr (.inl (hbr j h c' off' z1 h2 h3 h4))) fun h=>?_⟩
            subst h
            obtain ⟨uu,rfl⟩:=Row.brI (Option.some.inj (hr.symm.trans z1))
            exact dset_keys.mpr (.inr rfl)
          · obtain ⟨uu,rfl⟩:=Row.brI (hrk.symm.trans h)
            rw [Bool.and_true,decide_eq_true h0,decide_eq_true h1] at ht
            exact nTF ht
        · obtain ⟨rfl,uu⟩:=Row.brI (hrk.symm.trans h)
          rw [Bool.and_true] at hc
          exact of_decide_eq_false hc h2
    · rintro ρ H3 ⟨x4,x5,x6,D3,rfl,e3,g3,hk3,hin3,hbr⟩
      refine r_retN (evn_bi (evs_cons (ev_var rfl) evs_nil) (sorted_di g3 (Nat.lt_of_le_of_lt (le hk3) (by decide)))) fun b H4 N4=>q b H4 _ (N4.made e3) ⟨fun x hx=>mem_sortI.mpr (hin3 x hx),fun x hx=>hk3.rng x (mem_sortI.mp hx),fun i c off h1 h2 h3 h4=>mem_sortI.mpr (hbr i ?_ c off h1 h2 h3 h4),nodup_sortI hk3.nd⟩
      rw [rngL_len]
      exact (List.getElem?_eq_some_iff.mp h1).1
end Mine.Wk
end
section
namespace Mine.Wk
open PySem
noncomputable def EvI (C:Cl) (t:List ME) (ρ:Env) (H:AH) (b:Bool):Prop:=∀ Q,Q b H->wpIfs C t ρ H Q
theorem evi_nil {C:Cl} {ρ:Env} {H:AH}:EvI C [] ρ H true:=fun Q q=>q
theorem evi_t {C:Cl} {ρ:Env} {H:AH} {a:ME} {es:List ME} {c:Bool} (h:EvT C a ρ H true) (k:EvI C es ρ H c):EvI C (a::es) ρ H c:=fun Q q=>h _ (k Q q)
inductive CTurn (C:Cl) (tg:Tgt) (x:V) (ifs:List ME) (el:ME) (I:Env->AH->List V->Prop) (ρ:Env) (H:AH) (acc:List V):Prop
  | take (ρ':Env) (e:bindT tg x ρ = some ρ') (t:EvI C ifs ρ' H true) (l:acc.length<10000) (w:wpE C el ρ' H fun v H₂=>I ρ' H₂ (acc ++ [v]))
  | drop (ρ':Env) (e:bindT tg x ρ = some ρ') (t:EvI C ifs ρ' H false) (i:I ρ' H acc)
theorem comp_go {C:Cl} (hC:Mono C) {tg:Tgt} {ifs:List ME} {el:ME} {it:V} {all:List V} {Q:List V->AH->Prop} (I:Nat->Env->AH->List V->Prop) (hs:∀ i ρ H acc,I i ρ H acc->still it all H)
    (hb:∀ i x ρ H acc,all[i]? = some x->I i ρ H acc->CTurn C tg x ifs el (I (i+1)) ρ H acc) (he:∀ ρ H acc,I all.length ρ H acc->Q acc H) :
    ∀ (xs:List V) (i:Nat) ρ H acc,all.drop i=xs->i<=all.length->I i ρ H acc->compT tg (fun ρ' H' K=>wpIfs C ifs ρ' H' K) (fun ρ' H' K=>wpE C el ρ' H' K) it all xs ρ H acc Q
  | [],i,ρ,H,acc,e,hi,h=>⟨hs _ _ _ _ h,he _ _ _ (Nat.le_antisymm hi (List.drop_eq_nil_iff.mp e) ▸ h)⟩
  | x::xs,i,ρ,H,acc,e,hi,h=>by
    have hlt:i<all.length:=Nat.lt_of_not_le fun h=>nomatch (List.drop_eq_nil_iff.mpr h).symm.trans e
    rw [List.drop_eq_getElem_cons hlt] at e
    obtain ⟨hx,e⟩:=List.cons.inj e
    refine ⟨hs _ _ _ _ h,?_⟩
    rcases hb i x ρ H acc (by rw [List.getElem?_eq_getElem hlt,hx]) h with ⟨ρ',eb,t,l,w⟩ | ⟨ρ',eb,t,w⟩
    · rw [eb]; exact t _ (wpE_mono hC el _ _ _ _ (fun v H₂ z=>⟨l,comp_go hC I hs hb he xs (i+1) _ _ _ e hlt z⟩) w)
    · rw [eb]; exact t _ (comp_go hC I hs hb he xs (i+1) _ _ _ e hlt w)
theorem w_comp {C:Cl} (hC:Mono C) {fr:List (Option Nat)} {tg:Tgt} {it el:ME} {ifs:List ME} {x:V} {all:List V} {ρ:Env} {H:AH} {Q:V->AH->Prop} (h:Ev C it ρ H x) (hi:iterF x H=some all) (I:Nat->Env->AH->List V->Prop) (hs:∀ i ρ H acc,I i ρ H acc->still x all H)
    (hb:∀ i x ρ H acc,all[i]? = some x->I i ρ H acc->CTurn C tg x ifs el (I (i+1)) ρ H acc) (h0:I 0 (initC fr ρ) H []) (he:∀ ρ H acc,I all.length ρ H acc->∀ a H',New H a (.list acc) H'->Q (.ref a) H'):wpE C (.comp fr tg it ifs el) ρ H Q :=
  h _ (iL hi (comp_go hC I hs hb (fun ρ H acc h a ha=>he ρ H acc h a _ (.mk' ha)) all 0 _ _ _ List.drop_zero (Nat.zero_le _) h0))
section
variable {C:Cl} {ρ:Env} {H:AH} {Q:PO} {ss:List MS} {e o:ME} {a i:Nat} {xs:List V} {v:V}
theorem r_pop (h1:Ev C o ρ H (.ref a)) (g:H a=some (.list (xs ++ [v]))) (hl:xs.length+1<10000) (k:∀ H',Mut H a (.list xs) H'->rest C ss Q (setV ρ i v) H'):rest C (.assign i (.meth o "pop" [])::ss) Q ρ H :=
  r_methA h1 (pop_k g) evs_nil (pop_m g hl) (k _ .mk')
inductive ExtO (a:Nat) (xs:List V) (K:AH->Prop) (v:V) (H:AH):Prop
  | mk (b:Nat) (ys:List V) (e:v = .ref b) (g:H a=some (.list xs)) (h:H b=some (.list ys)) (l:xs.length+ys.length<10000) (n:a ≠ b) (k:∀ H',Mut H a (.list (xs ++ ys)) H'->K H')
theorem r_extend (hC:Mono C) (h1:Ev C o ρ H (.ref a)) (g:H a=some (.list xs)) (h:wpE C e ρ H (ExtO a xs (rest C ss Q ρ))):rest C (.expr (.meth o "extend" [e])::ss) Q ρ H :=
  r_exprW hC (w_meth1 h1 (extend_k g) (wpE_mono hC e _ _ _ _ (fun v H' z=>by
    obtain ⟨b,ys,rfl,g,h,l,n,k⟩:=z
    exact ⟨_,extend_m g h l n,k _ .mk'⟩) h) hC)
end
theorem some_n {α:Type} {o:Option α} (h:o.isSome=true):∃ v,o=some v:=Option.isSome_iff_exists.mp h
theorem none_n {α:Type} {o:Option α} (h:¬ o.isSome=true):o=Option.none:=Option.not_isSome_iff_eq_none.mp h
theorem dset_new {D:List (Int × V)} {k:Int} {v:V} (h:k ∉ keys D):(dset D k v).length=D.length+1:=by
  induction D with
  | nil=>rfl
  | cons p r ih=>
    have h:=not_or.mp (fun q=>h (List.mem_cons.mpr q))
    unfold dset
    rw [if_neg fun e=>h.1 e.symm]
    exact congrArg (· + 1) (ih h.2)
inductive RchI (H:AH) (a:Nat) (E:List Int) (k:Nat) (ρ:Env) (H':AH) (acc:List V):Prop
  | mk (x1:Option V) (hρ:ρ = [none,x1,none,some (.ref a)]) (h:H'=H) (e:acc=(E.take k).map V.int)
inductive RchJ (H:AH) (a e d w:Nat) (R:List Row) (E:List Int) (k:Nat) (ρ:Env) (H':AH):Prop
  | mk (x4:Option V) (D:List (Int × V)) (W:List Int) (hρ:ρ = [some (.ref a),some (.ref e),some (.ref d),some (.ref w),x4]) (e:Ext H H') (g:H' d=some (.di false D)) (gw:H' w=some (.list (W.map V.int))) (hk:Keys D R.length) (hW:∀ x ∈ W,0<=x/\x<(R.length:Int))
    (hE:∀ x ∈ E,x ∈ keys D \/ x ∈ W) (hc:∀ (i:Nat) r x,R[i]? = some r->(i:Int) ∈ keys D->x ∈ succU R.length i r->x ∈ keys D \/ x ∈ W) (hm:W.length+3*(R.length - D.length)<=k) (hm2:W.length+3*(R.length - D.length)<=300)
structure RchR (R:List Row) (E K:List Int):Prop where
  e:∀ x ∈ E,x ∈ K
  r:∀ x ∈ K,0<=x/\x<(R.length:Int)
  s:∀ (i:Nat) r x,R[i]? = some r->(i:Int) ∈ K->x ∈ succU R.length i r->x ∈ K
  n:K.Nodup
theorem wl {a b c d:Nat} (h:a+b<=c) (k:c<=d):a<=d:=Nat.le_trans (Nat.le_trans (Nat.le_add_right _ _) h) k
theorem pred_of {a b k:Nat} (h:a+1+b<=k):∃ j,k=j+1:=by
  rcases k with uu | k
  · omega
  · exact ⟨k,rfl⟩
theorem shr1 {a b k:Nat} (h:a+1+b<=k+1):a+b<=k:=by omega
theorem grow1 {W D R s k:Nat} (h:W+1+3*(R - D)<=k+1) (hD:D+1<=R) (hs:s<=2):W+s+3*(R - (D+1))<=k:=by omega
theorem last_of {W:List Int} (h:0<W.length):∃ W' t,W=W' ++ [t]:=⟨W.dropLast,W.getLast (List.ne_nil_of_length_pos h),(List.dropLast_concat_getLast _).symm⟩
theorem or_last {P:Prop} {x t:Int} {W:List Int} (h:P \/ x ∈ W ++ [t]) (k:x=t->P):P \/ x ∈ W:=h.elim .inl fun h=>(List.mem_append.mp h).elim .inr fun h=>.inl (k (List.mem_singleton.mp h))
theorem reach_spec {n:Nat} {H:AH} {Q:V->AH->Prop} {a e:Nat} {R:List Row} {E:List Int} (hR:H a=some (.list (R.map rowV))) (hE:H e=some (.list (E.map V.int))) (hl:R.length<=40)
    (hEl:E.length<=100) (hEr:∀ x ∈ E,0<=x/\x<(R.length:Int)) (q:∀ b H' (K:List Int),Made H b (.list (K.map V.int)) H'->RchR R E K->Q (.ref b) H'):CN (n+3) "reach_rows" [.ref a,.ref e] H Q:=by
  refine call_of rfl rfl (r_new evn_dict0 fun d H1 N=>r_assignW CN_Mono ?_)
  have hE1:=N.e _ _ hE
  refine w_comp CN_Mono (ev_var rfl) (iter_list hE1) (RchI H1 a E) ?_ ?_ ⟨none,rfl,rfl,rfl⟩ ?_
  · rintro k ρ H' acc ⟨x1,rfl,rfl,rfl⟩
    exact still_list hE1
  · rintro k x ρ H' acc hx ⟨x1,rfl,rfl,rfl⟩
    refine map_get hx fun y hy hv=>?_
    subst hv
    have hyr:=hEr y (List.mem_of_getElem? hy)
    refine .take _ rfl (evi_t (evt_and (evt_t (evt_cmp (c:=true) ev_int (ev_var rfl) (congrArg some (decide_eq_true hyr.1))) (evt_t (evt_cmp (c:=true) (ev_var rfl) (len_at rfl (N.e _ _ hR) hl) (congrArg some (decide_eq_true hyr.2))) evt_nil))) evi_nil) ?_ (ev_var rfl _ ⟨_,rfl,rfl,?_⟩)
    · rw [List.length_map,List.length_take]; exact Nat.lt_of_le_of_lt (Nat.le_trans (Nat.min_le_right _ _) hEl) (by decide)
    · rw [List.take_add_one,hy,List.map_append]; rfl
  rintro ρ H' acc ⟨x1,rfl,rfl,rfl⟩ w H2 N2
  rw [List.length_map,List.take_length] at N2
  have hwd:w ≠ d:=(ne_of_none N.g N2.n).symm
  have hH:=N.e.trans N2.e
  have hw0:H w=none:=N.e.none N2.n
  refine r_while CN_Mono (RchJ H a e d w R E) (k:=E.length+3*R.length) ?_ ⟨none,[],E,rfl,hH,N2.e _ _ N.g,N2.g,Keys.nil,hEr,fun x hx=>.inr hx,fun i r x h1 h2=>(nomatch h2),Nat.le_refl _,Nat.le_trans (Nat.add_le_add hEl (Nat.mul_le_mul_left 3 hl)) (by decide)⟩
  rintro k ρ H' ⟨x4,D,W,rfl,e3,g3,gw,hk,hW,hEin,hcl,hm,hm2⟩
  have hln:=hk.len
  have tw:EvT (CN (n+2)) (.cmp (.bi "len" [.var 3]) [.gt] [.int 0]) [some (.ref a),some (.ref e),some (.ref d),some (.ref w),x4] H' (decide (0<W.length)):=evt_cmp (ev_bi (evs_cons (ev_var rfl) evs_nil) (len_map gw (wl hm2 (by decide)))) ev_int (congrArg some (decide_eq_decide.mpr (Int.ofNat_lt (n:=0))))
  by_cases h0:0<W.length
  · obtain ⟨W',t,rfl⟩:=last_of h0
    rw [decide_eq_true h0] at tw
    rw [List.length_append] at hm hm2
    have hm:W'.length+1+3*(R.length - D.length)<=k:=hm
    have hm2:W'.length+1+3*(R.length - D.length)<=300:=hm2
    obtain ⟨j,rfl⟩:=pred_of hm
    rw [List.map_append] at gw
    refine .go tw j rfl (r_pop (v:=.int t) (ev_var rfl) gw (by rw [List.length_map]; exact Nat.lt_of_le_of_lt (wl hm2 (Nat.le_refl _)) (by decide)) fun H4 m4=>?_)
    have ht:=hW t (List.mem_append_right _ (.head _))
    have e4:Ext H H4:=m4.ext e3 hw0
    have gd4:H4 d=some (.di false D):=(m4.o d hwd.symm).trans g3
    have tin:EvT (CN (n+2)) (.cmp (.var 4) [.notin] [.var 2]) [some (.ref a),some (.ref e),some (.ref d),some (.ref w),some (.int t)] H4 (!(dget D t).isSome):=evt_cmp (ev_var rfl) (ev_var rfl) (by rw [cm_notin,in_di gd4]; rfl)
    refine r_if CN_Mono tin (fun hc=>?_) fun hc=>?_
    · have hin:t ∉ keys D:=fun h=>nTF ((dget_mem.mpr h).symm.trans (not_e' hc))
      refine r_storeDi ev_bool (ev_var rfl) (ev_var rfl) gd4 (Nat.le_trans hln (Nat.le_trans hl (by decide))) fun H5 m5=>?_
      have e5:Ext H H5:=m5.ext e4 N.n
      have gw5:H5 w=some (.list (W'.map V.int)):=(m5.o w hwd).trans m4.g
      obtain ⟨i,rfl⟩:=Int.eq_ofNat_of_zero_le ht.1
      have hr:R[i]? = some R[i]:=List.getElem?_eq_getElem (Int.ofNat_lt.mp ht.2)
      refine r_extend CN_Mono (ev_var rfl) gw5 (w_call (evs_cons (ev_var rfl) (evs_cons (ev_var rfl) evs_nil)) (successors_spec (e5 _ _ hR) hr hl fun b H6 M6=>?_))
      have hsl:(sortI (succU R.length i R[i])).length<=2:=by rw [len_sortI]; exact succU_len
      have hb:W'.length+(sortI (succU R.length i R[i])).length<10000:=Nat.lt_of_le_of_lt (Nat.add_le_add (wl (shr1 (k:=299) hm2) (Nat.le_refl _)) hsl) (by decide)
      refine ⟨b,_,rfl,M6.e _ _ gw5,M6.g,by rw [List.length_map,List.length_map]; exact hb,ne_of_none gw5 M6.n,fun H7 m7=>?_⟩
      have e7:Ext H H7:=m7.ext (e5.trans M6.e) hw0
      refine r_extend CN_Mono (ev_var rfl) m7.g (w_call (evs_cons (ev_var rfl) (evs_cons (ev_var rfl) evs_nil)) (called_spec (e7 _ _ hR) hr hl fun b' H8 M8=>?_))
      refine ⟨b',[],rfl,M8.e _ _ m7.g,M8.g,by rw [List.length_append,List.length_map,List.length_map]; exact hb,ne_of_none m7.g M8.n,fun H9 m9=>rest_nil ?_⟩
      have hlen:(dset D (i:Int) (.bool true)).length=D.length+1:=dset_new hin
      have hk':Keys (dset D (i:Int) (.bool true)) R.length:=hk.set ht.1 ht.2
      have hn':=hk'.len
      have mono:∀ {x:Int},x ∈ keys D->x ∈ keys (dset D (i:Int) (.bool true)):=fun h=>dset_keys.mpr (.inl h)
      have me:∀ {x:Int},x=(i:Int)->x ∈ keys (dset D (i:Int) (.bool true)):=fun h=>dset_keys.mpr (.inr h)
      refine ⟨_,_,W' ++ sortI (succU R.length i R[i]),rfl,m9.ext (e7.trans M8.e) hw0,?_,?_,hk',fun x hx=>?_,fun x hx=>?_,fun i' r' x hi h2 h3=>?_,?_,?_⟩
      · rw [m9.o d hwd.symm]; exact M8.e _ _ ((m7.o d hwd.symm).trans (M6.e _ _ m5.g))
      · rw [m9.g,List.append_nil,<- List.map_append]
      · exact (List.mem_append.mp hx).elim (fun h=>hW x (List.mem_append_left _ h)) fun h=>succU_range (mem_sortI.mp h)
      · exact (or_last ((hEin x hx).imp_left mono) me).imp id (List.mem_append_left _)
      · rcases dset_keys.mp h2 with h4 | h4
        · exact (or_last ((hcl i' r' x hi h4 h3).imp_left mono) me).imp id (List.mem_append_left _)
        · obtain rfl:=Int.ofNat_inj.mp h4
          obtain rfl:=Option.some.inj (hr.symm.trans hi)
          exact .inr (List.mem_append_right _ (mem_sortI.mpr h3))
      · rw [List.length_append,hlen]; exact grow1 hm (hlen ▸ hn') hsl
      · rw [List.length_append,hlen]; exact Nat.le_succ_of_le (grow1 (k:=299) hm2 (hlen ▸ hn') hsl)
    · have hin:t ∈ keys D:=dget_mem.mp (not_f' hc)
      exact rest_nil ⟨_,D,W',rfl,e4,gd4,m4.g,hk,fun x hx=>hW x (List.mem_append_left _ hx),fun x hx=>or_last (hEin x hx) fun h=>h ▸ hin,fun i r x hi h2 h3=>or_last (hcl i r x hi h2 h3) fun h=>h ▸ hin,shr1 hm,Nat.le_succ_of_le (shr1 (k:=299) hm2)⟩
  · have hW0:W=[]:=List.length_eq_zero_iff.mp (Nat.eq_zero_of_not_pos h0)
    subst hW0
    refine .stop tw (r_retN (evn_bi (evs_cons (ev_var rfl) evs_nil) (sorted_di g3 (Nat.lt_of_le_of_lt (Nat.le_trans hln hl) (by decide)))) fun b H4 N4=>q b H4 _ (N4.made e3) ⟨fun x hx=>mem_sortI.mpr ((hEin x hx).elim id fun h=>nomatch h),fun x hx=>hk.rng x (mem_sortI.mp hx),fun i r x h1 h2 h3=>mem_sortI.mpr ((hcl i r x h1 (mem_sortI.mp h2) h3).elim id fun h=>nomatch h),nodup_sortI hk.nd⟩)
end Mine.Wk
end
section
namespace Mine.Wk
open PySem
noncomputable def Sb (a b:Nat):Prop:=∀ j,a.testBit j=true->b.testBit j=true
theorem Sb.rfl {a:Nat}:Sb a a:=fun uu h=>h
theorem Sb.trans {a b c:Nat} (h:Sb a b) (h':Sb b c):Sb a c:=fun j e=>h' j (h j e)
theorem Sb.zero {a:Nat}:Sb 0 a:=fun j h=>by simp at h
theorem Sb.le {a b:Nat} (h:Sb a b):a<=b:=by
  have:a ||| b=b:=by
    apply Nat.eq_of_testBit_eq
    intro j
    have:=h j
    rw [Nat.testBit_or]
    cases h1:a.testBit j <;> cases h2:b.testBit j <;> simp_all
  calc a<=a ||| b:=Nat.left_le_or
    _=b:=this
theorem Sb.or {a b a' b':Nat} (h:Sb a a') (h':Sb b b'):Sb (a ||| b) (a' ||| b'):=by
  intro j e
  rw [Nat.testBit_or] at e ⊢
  rcases Bool.or_eq_true _ _ |>.mp e with e | e
  · rw [h j e]; simp
  · rw [h' j e]; simp
theorem sub_two {x y p q:Nat} (h1:q<=p) (h2:y<=x):2*x+p - (2*y+q)=2*(x - y)+(p - q):=by
  rw [Nat.mul_sub]
  exact Nat.sub_eq_of_eq_add (by rw [Nat.add_add_add_comm,Nat.sub_add_cancel (Nat.mul_le_mul_left 2 h2),Nat.sub_add_cancel h1])
theorem sub_half {a b:Nat} (h1:b % 2<=a % 2) (h2:b / 2<=a / 2):(a - b) / 2=a / 2 - b / 2/\(a - b) % 2=a % 2 - b % 2:=by
  have e:a - b=2*(a / 2 - b / 2)+(a % 2 - b % 2):=by rw [<- sub_two h1 h2,Nat.div_add_mod,Nat.div_add_mod]
  have l:a % 2 - b % 2<2:=Nat.lt_of_le_of_lt (Nat.sub_le _ _) (Nat.mod_lt _ (by decide))
  rw [e,Nat.mul_add_div (by decide),Nat.div_eq_of_lt l,Nat.mul_add_mod,Nat.mod_eq_of_lt l]
  exact ⟨rfl,rfl⟩
theorem odd_bit {x:Nat}:x % 2=(x.testBit 0).toNat:=by rw [Nat.toNat_testBit,Nat.pow_zero,Nat.div_one]
theorem and_half {k w:Nat}:(k &&& w) % 2<=k % 2/\(k &&& w) / 2=k / 2 &&& w / 2:=by
  refine ⟨?_,?_⟩
  · rw [odd_bit,odd_bit,Nat.testBit_and]
    rcases k.testBit 0 with uu | uu <;> rcases w.testBit 0 with uu | uu <;> decide
  · exact Nat.eq_of_testBit_eq fun i=>by rw [Nat.testBit_and,<- Nat.testBit_succ,<- Nat.testBit_succ,<- Nat.testBit_succ,Nat.testBit_and]
theorem diff_bit (j:Nat):∀ k w:Nat,(k - (k &&& w)).testBit j=(k.testBit j && !w.testBit j):=by
  induction j with
  | zero=>
    intro k w
    have h:=(sub_half (and_half (k:=k) (w:=w)).1 ((and_half (k:=k) (w:=w)).2 ▸ Nat.and_le_left)).2
    rw [odd_bit,odd_bit,odd_bit,Nat.testBit_and] at h
    revert h
    rcases (k - (k &&& w)).testBit 0 with uu | uu <;> rcases k.testBit 0 with uu | uu <;> rcases w.testBit 0 with uu | uu <;> decide
  | succ j ih=>
    intro k w
    rw [Nat.testBit_succ,Nat.testBit_succ,Nat.testBit_succ,<- ih (k / 2) (w / 2),(sub_half and_half.1 (and_half.2 ▸ Nat.and_le_left)).1,and_half.2]
theorem live_bit {r:Row} {k j:Nat}:(liveN r k).testBit j=((k.testBit j && !(writesN r).testBit j) || (readsN r).testBit j):=by
  rw [liveN,Nat.testBit_or,diff_bit]
theorem live_mono {r:Row} {k k':Nat} (h:Sb k k'):Sb (liveN r k) (liveN r k'):=by
  intro j e
  rw [live_bit] at e ⊢
  rcases Bool.or_eq_true _ _ |>.mp e with e | e
  · rcases Bool.and_eq_true _ _ |>.mp e with ⟨e1,e2⟩
    rw [h j e1,e2]; simp
  · rw [e]; simp
theorem condN_lt {c:Cnd}:condN c<2 ^ 18:=by cases c <;> decide
theorem pow_lt {a:Nat} (h:a<=17):2 ^ a<2 ^ 18:=Nat.pow_lt_pow_right (by decide) (by omega)
theorem reads_lt {r:Row} (h:rOk r):readsN r<2 ^ 18:=by
  rcases r with ⟨op,a,b,c⟩ | ⟨op,a,b,c⟩ | ⟨op,a,c⟩ | ⟨c,off⟩ | ⟨c,en,ep⟩ | ⟨c⟩
  · obtain ⟨h1,h2,h3⟩:=h
    cases op
    · exact pow_lt (by omega)
    all_goals exact Nat.or_lt_two_pow (pow_lt (by omega)) (pow_lt (by omega))
  · obtain ⟨h1,h2⟩:=h
    cases op <;> first | exact pow_lt (by omega) | (simp [readsN])
  · cases op
    · exact pow_lt (by omega)
    all_goals exact Nat.or_lt_two_pow (pow_lt (by omega)) (pow_lt (by have:=h.1; omega))
  · exact condN_lt
  · simp only [readsN]
    split
    · exact Nat.or_lt_two_pow condN_lt (by decide)
    · exact condN_lt
  · exact Nat.or_lt_two_pow (Nat.or_lt_two_pow (Nat.or_lt_two_pow condN_lt (by decide)) (by decide)) (by decide)
theorem live_lt {r:Row} {k:Nat} (h:rOk r) (hk:k<2 ^ 18):liveN r k<2 ^ 18 :=
  Nat.or_lt_two_pow (by omega) (reads_lt h)
noncomputable def testsF:Row->Bool
  | .br c _ | .trap c _ _ | .ret c=>decide (c ≠ .AL/\c ≠ .NV)
  | _=>false
theorem condN_17 {c:Cnd} (h:decide (c ≠ .AL/\c ≠ .NV)=true):(condN c).testBit 17=true:=by
  have e:(131072:Nat).testBit 17=true:=by decide
  cases c
  · simp at h
  · exact e
  · exact e
  · exact e
  · exact e
  · simp at h
  · exact e
theorem reads_17 {r:Row} (h:testsF r=true):(readsN r).testBit 17=true:=by
  rcases r with ⟨op,a,b,c⟩ | ⟨op,a,b,c⟩ | ⟨op,a,c⟩ | ⟨c,off⟩ | ⟨c,en,ep⟩ | ⟨c⟩
  · cases h
  · cases h
  · cases h
  · exact condN_17 h
  · simp only [readsN]
    split
    · rw [Nat.testBit_or,condN_17 h]; rfl
    · exact condN_17 h
  · simp only [readsN,Nat.testBit_or]
    rw [condN_17 h]; rfl
theorem writes_17 {r:Row} (h:rOk r) (hs:setsF r=false):(writesN r).testBit 17=false:=by
  rcases r with ⟨op,a,b,c⟩ | ⟨op,a,b,c⟩ | ⟨op,a,c⟩ | ⟨c,off⟩ | ⟨c,en,ep⟩ | ⟨c⟩ <;> first
    | (cases hs; done)
    | (simp [writesN]; done)
    | (cases op <;> first
        | (simp [writesN]; done)
        | (simp only [writesN]; have:=h.1; rw [Nat.testBit_two_pow]; simp; omega))
noncomputable def aftN (B:List Nat) (n i:Nat) (r:Row):Nat:=(sortI (succU n i r)).foldl (fun k t=>k ||| B.getD t.toNat 0) (if leavesF n i r then 262143 else 0)
theorem fold_mono {B B':List Nat} (h:∀ t:Nat,Sb (B.getD t 0) (B'.getD t 0)):∀ (l:List Int) (k k':Nat),Sb k k'->Sb (l.foldl (fun k t=>k ||| B.getD t.toNat 0) k) (l.foldl (fun k t=>k ||| B'.getD t.toNat 0) k')
  | [],_,_,hk=>hk
  | t::l,_,_,hk=>fold_mono h l _ _ (hk.or (h _))
theorem aft_mono {B B':List Nat} {n i:Nat} {r:Row} (h:∀ t:Nat,Sb (B.getD t 0) (B'.getD t 0)):Sb (aftN B n i r) (aftN B' n i r):=fold_mono h _ _ _ .rfl
theorem fold_lt {B:List Nat} (h:∀ t:Nat,B.getD t 0<2 ^ 18):∀ (l:List Int) (k:Nat),k<2 ^ 18->l.foldl (fun k t=>k ||| B.getD t.toNat 0) k<2 ^ 18
  | [],_,hk=>hk
  | t::l,_,hk=>fold_lt h l _ (Nat.or_lt_two_pow hk (h _))
theorem aft_lt {B:List Nat} {n i:Nat} {r:Row} (h:∀ t:Nat,B.getD t 0<2 ^ 18):aftN B n i r<2 ^ 18:=fold_lt h _ _ (by split <;> decide)
theorem fold_start {B:List Nat}:∀ (l:List Int) (k:Nat),Sb k (l.foldl (fun k t=>k ||| B.getD t.toNat 0) k)
  | [],_=>.rfl
  | t::l,k=>Sb.trans (fun j e=>by rw [Nat.testBit_or,e]; simp) (fold_start l _)
theorem fold_mem {B:List Nat}:∀ (l:List Int) (k:Nat) (t:Int),t ∈ l->Sb (B.getD t.toNat 0) (l.foldl (fun k t=>k ||| B.getD t.toNat 0) k)
  | t'::l,k,t,h=>by
    rcases List.mem_cons.mp h with h | h
    · subst h
      refine Sb.trans ?_ (fold_start l _)
      intro j e
      rw [Nat.testBit_or,e]; simp
    · exact fold_mem l _ t h
theorem aft_mem {B:List Nat} {n i:Nat} {r:Row} {t:Int} (h:t ∈ succU n i r):Sb (B.getD t.toNat 0) (aftN B n i r):=fold_mem _ _ _ (mem_sortI.mpr h)
theorem fold_same {B B':List Nat}:∀ (l:List Int) (k:Nat),(∀ t ∈ l,B.getD t.toNat 0=B'.getD t.toNat 0)->l.foldl (fun k t=>k ||| B.getD t.toNat 0) k=l.foldl (fun k t=>k ||| B'.getD t.toNat 0) k
  | [],_,_=>rfl
  | t::l,k,h=>by
    simp only [List.foldl_cons,h t (by simp)]
    exact fold_same l _ fun t' h'=>h t' (by simp [h'])
theorem sum_set:∀ (B:List Nat) (i v:Nat),i<B.length->(B.set i v).sum+B.getD i 0=B.sum+v
  | x::B,0,v,_=>by simp; omega
  | x::B,i+1,v,h=>by
    have:=sum_set B i v (by simpa using h)
    simp at this ⊢; omega
theorem sum_le:∀ (B:List Nat) (m:Nat),(∀ x ∈ B,x<=m)->B.sum<=B.length*m
  | [],m,_=>by simp
  | x::B,m,h=>by
    have h1:=sum_le B m fun y hy=>h y (by simp [hy])
    have h2:=h x (by simp)
    simp only [List.sum_cons,List.length_cons,Nat.succ_mul]; omega
structure LiveOK (R:List Row) (A:List Nat) (FL:Nat->Prop):Prop where
  len:A.length=R.length
  tests:∀ (i:Nat) r,R[i]? = some r->testsF r=true->FL i
  thru:∀ (i:Nat) r t,R[i]? = some r->setsF r=false->t ∈ succU R.length i r->FL t.toNat->FL i
  after:∀ (i:Nat) r t,R[i]? = some r->(A.getD i 0).testBit 17=false->t ∈ succU R.length i r->¬ FL t.toNat
theorem liveOK_of {R:List Row} {A B:List Nat} (hl:A.length=R.length) (hok:∀ (i:Nat) r,R[i]? = some r->rOk r) (hA:∀ (i:Nat) r,R[i]? = some r->A.getD i 0=aftN B R.length i r)
    (hB:∀ (i:Nat) r,R[i]? = some r->B.getD i 0=liveN r (aftN B R.length i r)):LiveOK R A fun i=>(B.getD i 0).testBit 17=true where
  len:=hl
  tests i r hr h:=by rw [hB i r hr,live_bit,reads_17 h]; simp
  thru i r t hr hs ht h:=by
    rw [hB i r hr,live_bit,writes_17 (hok i r hr) hs,aft_mem ht 17 h]; simp
  after i r t hr h ht h':=by
    rw [hA i r hr] at h
    rw [aft_mem ht 17 h'] at h; cases h
end Mine.Wk
end
section
namespace Mine.Wk
open PySem
theorem nodup_len_nat:∀ (n:Nat) (l:List Nat),l.Nodup->(∀ x ∈ l,x<n)->l.length<=n
  | 0,l,_,hb=>by
    cases l with
    | nil=>simp
    | cons x r=>have:=hb x (by simp); omega
  | n+1,l,hn,hb=>by
    by_cases hm:n ∈ l
    · have h1:=nodup_len_nat n (l.erase n) (hn.erase _) (fun x hx=>by
        have h2:=(hn.mem_erase_iff).mp hx
        have:=hb x h2.2
        have:=h2.1
        omega)
      rw [List.length_erase_of_mem hm] at h1
      omega
    · have:=nodup_len_nat n l hn (fun x hx=>by
        have h2:=hb x hx
        have:x ≠ n:=by rintro rfl; exact hm hx
        omega)
      omega
structure LV (R:List Row) (B A W:List Nat) (T:List Bool):Prop where
  bl:B.length=R.length
  al:A.length=R.length
  tl:T.length=R.length
  wn:W.Nodup
  wt:∀ x ∈ W,T[x]? = some true
  tw:∀ x:Nat,T[x]? = some true->x ∈ W
  b18:∀ t:Nat,B.getD t 0<2 ^ 18
  mono:∀ (i:Nat) r,R[i]? = some r->Sb (B.getD i 0) (liveN r (aftN B R.length i r))
  done:∀ (i:Nat) r,R[i]? = some r->T[i]? = some false->A.getD i 0=aftN B R.length i r/\B.getD i 0=liveN r (aftN B R.length i r)
theorem getD_set {α:Type} {l:List α} {i j:Nat} {v d:α} (h:i<l.length):(l.set i v).getD j d=if i=j then v else l.getD j d:=by
  simp only [List.getD_eq_getElem?_getD,List.getElem?_set]
  split
  · rename_i e; subst e; simp [h]
  · rfl
theorem get_set {α:Type} {l:List α} {i j:Nat} {v:α} (h:i<l.length):(l.set i v)[j]? = if i=j then some v else l[j]?:=by
  simp only [List.getElem?_set]
  split
  · rename_i e; subst e; simp [h]
  · rfl
theorem LV.wlen {R:List Row} {B A W:List Nat} {T:List Bool} (h:LV R B A W T):W.length<=R.length :=
  nodup_len_nat _ _ h.wn fun x hx=>by
    have:=(List.getElem?_eq_some_iff.mp (h.wt x hx)).1
    have:=h.tl; omega
theorem LV.pop {R:List Row} {B A W:List Nat} {T:List Bool} {i:Nat} (h:LV R B A (W ++ [i]) T):i<R.length/\W.Nodup/\(∀ x ∈ W,(T.set i false)[x]? = some true)/\(∀ x:Nat,(T.set i false)[x]? = some true->x ∈ W):=by
  have hi:T[i]? = some true:=h.wt i (by simp)
  have hil:i<T.length:=(List.getElem?_eq_some_iff.mp hi).1
  have hnd:=List.nodup_append.mp h.wn
  refine ⟨by have:=h.tl; omega,hnd.1,fun x hx=>?_,fun x hx=>?_⟩
  · rw [get_set hil]
    have:i ≠ x:=fun e=>hnd.2.2 x hx i (by simp) e.symm
    simp [this,h.wt x (by simp [hx])]
  · rw [get_set hil] at hx
    split at hx
    · cases hx
    · rename_i hne
      rcases List.mem_append.mp (h.tw x hx) with h1 | h1
      · exact h1
      · simp at h1; exact (hne h1.symm).elim
theorem LV.keep {R:List Row} {B A W:List Nat} {T:List Bool} {i:Nat} {r:Row} (h:LV R B A (W ++ [i]) T) (hr:R[i]? = some r)
    (he:liveN r (aftN B R.length i r)=B.getD i 0):LV R B (A.set i (aftN B R.length i r)) W (T.set i false):=by
  obtain ⟨hi,h1,h2,h3⟩:=h.pop
  have hA:i<A.length:=by have:=h.al; omega
  have hT:i<T.length:=by have:=h.tl; omega
  refine ⟨h.bl,by simp [h.al],by simp [h.tl],h1,h2,h3,h.b18,h.mono,fun j r' hj ht=>?_⟩
  rw [getD_set hA]
  rw [get_set hT] at ht
  split
  · rename_i e; subst e; rw [hr] at hj; cases hj; exact ⟨rfl,he.symm⟩
  · rename_i e; rw [if_neg e] at ht; exact h.done j r' hj ht
theorem LV.change {R:List Row} {B A W W' G:List Nat} {T T':List Bool} {i:Nat} {r:Row} (h:LV R B A (W ++ [i]) T) (hr:R[i]? = some r) (hok:rOk r)
    (hG:∀ (j:Nat) r',R[j]? = some r'->(i:Int) ∈ succU R.length j r'->j ∈ G)
    (hl:T'.length=R.length) (hn:W'.Nodup) (h1:∀ x ∈ W',T'[x]? = some true) (h2:∀ x:Nat,T'[x]? = some true->x ∈ W')
    (h3:∀ x:Nat,(T.set i false)[x]? = some true->T'[x]? = some true) (h4:∀ x ∈ G,T'[x]? = some true) :
    LV R (B.set i (liveN r (aftN B R.length i r))) (A.set i (aftN B R.length i r)) W' T':=by
  obtain ⟨hi,uu,uu,uu⟩:=h.pop
  have hA:i<A.length:=by have:=h.al; omega
  have hT:i<T.length:=by have:=h.tl; omega
  have hB:i<B.length:=by have:=h.bl; omega
  have hm:∀ t:Nat,Sb (B.getD t 0) ((B.set i (liveN r (aftN B R.length i r))).getD t 0):=by
    intro t
    rw [getD_set hB]
    split
    · rename_i e; subst e; exact h.mono i r hr
    · exact .rfl
  have same:∀ (j:Nat) r',R[j]? = some r'->T'[j]? = some false->aftN (B.set i (liveN r (aftN B R.length i r))) R.length j r'=aftN B R.length j r':=by
    intro j r' hj ht
    refine fold_same _ _ fun t hm=>?_
    rw [getD_set hB,if_neg]
    intro e
    have hm':=mem_sortI.mp hm
    have hrg:=succU_range hm'
    have e':t=(i:Int):=by omega
    subst e'
    rw [h4 j (hG j r' hj hm')] at ht; cases ht
  refine ⟨by simp [h.bl],by simp [h.al],hl,hn,h1,h2,fun t=>?_,fun j r' hj=>?_,fun j r' hj ht=>?_⟩
  · rw [getD_set hB]
    split
    · exact live_lt hok (aft_lt h.b18)
    · exact h.b18 t
  · rw [getD_set hB]
    split
    · rename_i e; subst e; rw [hr] at hj; cases hj; exact live_mono (aft_mono hm)
    · exact (h.mono j r' hj).trans (live_mono (aft_mono hm))
  · rw [same j r' hj ht,getD_set hA,getD_set hB]
    split
    · rename_i e; subst e; rw [hr] at hj; cases hj; exact ⟨rfl,rfl⟩
    · rename_i e
      refine h.done j r' hj ?_
      have hjl:j<T.length:=by have:=(List.getElem?_eq_some_iff.mp hj).1; have:=h.tl; omega
      have:T[j]? = some T[j]:=List.getElem?_eq_getElem hjl
      rw [this]
      cases hb:T[j]
      · rfl
      · rw [hb] at this
        have h5:=h3 j (by rw [get_set hT,if_neg e]; exact this)
        rw [h5] at ht; cases ht
noncomputable def meas (n:Nat) (B W:List Nat):Nat:=W.length+(n+1)*(n*2 ^ 18 - B.sum)
theorem LV.sum_le {R:List Row} {B A W:List Nat} {T:List Bool} (h:LV R B A W T):B.sum<=R.length*2 ^ 18:=by
  have:=Mine.Wk.sum_le B (2 ^ 18) fun x hx=>by
    obtain ⟨t,ht⟩:=List.getElem?_of_mem hx
    have:=h.b18 t
    rw [List.getD_eq_getElem?_getD,ht] at this
    simp at this; omega
  rwa [h.bl] at this
theorem meas_change {R:List Row} {B A A' W W':List Nat} {T T':List Bool} {i v:Nat} (h:LV R B A (W ++ [i]) T) (h':LV R (B.set i v) A' W' T') (hv:B.getD i 0<v) :
    meas R.length (B.set i v) W'<meas R.length B (W ++ [i]):=by
  have hi:=h.pop.1
  have h1:=sum_set B i v (by have:=h.bl; omega)
  have h2:=h'.wlen
  have h3:=h'.sum_le
  have h4:(R.length*2 ^ 18 - (B.set i v).sum)+1<=R.length*2 ^ 18 - B.sum:=by omega
  have h5:=Nat.mul_le_mul_left (R.length+1) h4
  rw [Nat.mul_add] at h5
  unfold meas
  simp only [List.length_append,List.length_cons,List.length_nil]
  omega
end Mine.Wk
end
section
namespace Mine.Wk
open PySem
noncomputable def natL (B:List Nat):List V:=B.map fun k:Nat=>V.int (k:Int)
theorem natL_get {B:List Nat} {i:Nat}:(natL B)[i]? = (B[i]?).map fun k:Nat=>V.int (k:Int):=List.getElem?_map ..
theorem natL_len {B:List Nat}:(natL B).length=B.length:=List.length_map _
theorem natL_set {B:List Nat} {i v:Nat}:(natL B).set i (.int (v:Int))=natL (B.set i v):=(List.map_set ..).symm
theorem map_one {α β:Type} {f:α->β} {l:List α} {x:α}:l.map f ++ [f x]=(l ++ [x]).map f:=by rw [List.map_append]; rfl
theorem natL_app {B:List Nat} {v:Nat}:natL B ++ [.int (v:Int)]=natL (B ++ [v]):=map_one
theorem boolL_set {T:List Bool} {i:Nat} {v:Bool}:(T.map V.bool).set i (.bool v)=(T.set i v).map V.bool:=(List.map_set ..).symm
theorem getD_some {B:List Nat} {i:Nat} (h:i<B.length):B[i]? = some (B.getD i 0):=by
  rw [List.getD_eq_getElem?_getD,List.getElem?_eq_getElem h]; rfl
theorem c40 {a n:Nat} (h:a<=40) (k:40<n):a<n:=Nat.lt_of_le_of_lt h k
theorem c40' {a n:Nat} (h:a<=40) (k:40<=n):a<=n:=Nat.le_trans h k
theorem sub_nth {H:AH} {a i:Nat} {xs:List V} {v:V} (h:H a=some (.list xs)) (hi:xs[i]? = some v) (hl:i<100000):subF (.ref a) (.int i) H=some v:=(sub_list h).trans ((idx_cast hl).trans hi)
theorem sub_nat {H:AH} {a i:Nat} {B:List Nat} (h:H a=some (.list (natL B))) (hi:i<B.length) (hl:i<100000):subF (.ref a) (.int i) H=some (.int ((B.getD i 0:Nat):Int)):=sub_nth h (by rw [natL_get,getD_some hi]; rfl) hl
theorem flat_one {x:V}:∀ n,(List.replicate n [x]).flatten=List.replicate n x
  | 0=>rfl
  | n+1=>by rw [List.replicate_succ,List.flatten_cons,flat_one n]; rfl
theorem mulL {H:AH} {a:Nat} {x:V} {n:Nat} (h:H a=some (.list [x])) (hn:n<=1000):binF .mul (.ref a) (.int (n:Int)) H=some (.new (.list (List.replicate n x))):=by
  show (listAt H a).bind _=_
  refine bind_of (listAt_of h) ((if_pos ⟨?_,Int.ofNat_le.mpr hn,Int.natCast_nonneg n⟩).trans ?_)
  · show some (Rs.new (.list (List.replicate n [x]).flatten))=_
    rw [flat_one]
  · show 1*n<=1000
    rw [Nat.one_mul]; exact hn
theorem r_fill {C:Cl} {ρ:Env} {H:AH} {Q:PO} {ss:List MS} {e b:ME} {x:V} {n i:Nat} (hn:n<=1000) (h1:∀ H,Ev C e ρ H x) (h2:∀ H,Ev C b ρ H (.int n)) (k:∀ a H',Made H a (.list (List.replicate n x)) H'->rest C ss Q (setV ρ i (.ref a)) H') :
    rest C (.assign i (.bin .mul (.list [e]) b)::ss) Q ρ H :=
  ⟨h1 H _ fun t ht=>h2 _ _ (iR (r:=.new (.list (List.replicate n x))) (mulL set_same hn) fun a ha=>(k a _ ⟨(ext_set .rfl ht).none ha,(ext_set .rfl ht).trans (ext_set .rfl ha),set_same⟩).w)⟩
theorem list_rng {H:AH} {lo hi:Int}:biF "list" [.rng lo hi] H=some (.new (.list (rngL lo hi))):=rfl
theorem rngL_nat {n:Nat}:rngL 0 (n:Int)=natL (List.range n):=List.map_congr_left fun k uu=>congrArg V.int (Int.zero_add _)
theorem nodup_inj {l:List Nat} (h:l.Nodup) {i j e:Nat} (h1:l[i]? = some e) (h2:l[j]? = some e):i=j:=by
  obtain ⟨h3,h4⟩:=List.getElem?_eq_some_iff.mp h1
  obtain ⟨h5,h6⟩:=List.getElem?_eq_some_iff.mp h2
  have hp:=List.pairwise_iff_getElem.mp h
  rcases Nat.lt_trichotomy i j with h7 | h7 | h7
  · exact (hp i j h3 h5 h7 (h4.trans h6.symm)).elim
  · exact h7
  · exact (hp j i h5 h3 h7 (h6.trans h4.symm)).elim
theorem app_get {α:Type} {l:List α} {x y:α} {k i:Nat} {P:Prop} (hl:l.length=k) (h:(l ++ [x])[i]? = some y) (h1:l[i]? = some y->P) (h2:i=k->x=y->P):P:=by
  subst hl
  rcases Nat.lt_trichotomy i l.length with hi | hi | hi
  · rw [List.getElem?_append_left hi] at h; exact h1 h
  · subst hi; rw [List.getElem?_concat_length] at h; exact h2 rfl (Option.some.inj h)
  · rw [List.getElem?_eq_none (by rw [List.length_append]; exact hi)] at h; exact nomatch h
theorem all_app {α:Type} {P:α->Prop} {l:List α} {x:α} (h:∀ y ∈ l,P y) (k:P x):∀ y ∈ l ++ [x],P y:=fun y hy=>(List.mem_append.mp hy).elim (h y) fun e=>List.mem_singleton.mp e ▸ k
theorem nodup_app {l:List Nat} {x:Nat} (h:l.Nodup) (k:x ∉ l):(l ++ [x]).Nodup:=List.nodup_append.mpr ⟨h,List.nodup_cons.mpr ⟨List.not_mem_nil,.nil⟩,fun y hy z hz e=>k (List.mem_singleton.mp hz ▸ e ▸ hy)⟩
noncomputable abbrev succV (n i:Nat) (r:Row):List V:=(sortI (succU n i r)).map V.int
inductive FolI (H2:AH) (a:Nat) (R:List Row) (k:Nat) (ρ:Env) (H':AH) (acc:List V):Prop
  | mk (x1:Option V) (F:List Nat) (hρ:ρ = [none,x1,none,some (.ref a)]) (e:Ext H2 H') (ha:acc=F.map V.ref) (hF:F.length=k) (n:∀ f ∈ F,H2 f=none) (g:∀ (i:Nat) r f,R[i]? = some r->F[i]? = some f->H' f=some (.list (succV R.length i r)))
inductive EarI (H4:AH) (k:Nat) (ρ:Env) (H':AH) (acc:List V):Prop
  | mk (x1:Option V) (E:List Nat) (hρ:ρ = [none,x1]) (e:Ext H4 H') (ha:acc=E.map V.ref) (hE:E.length=k) (nd:E.Nodup) (g:∀ e ∈ E,H4 e=none/\H' e=some (.list []))
theorem follow_turn {n:Nat} {H2:AH} {a k:Nat} {R:List Row} {x:V} {ρ:Env} {H':AH} {acc:List V} (hl:R.length<=40) (hR2:H2 a=some (.list (R.map rowV))) (hx:(rngL 0 (R.length:Int))[k]? = some x) (h:FolI H2 a R k ρ H' acc) :
    CTurn (CN (n+5)) (.one 1) x [] (.call "successors" [.var 3,.var 1]) (FolI H2 a R (k+1)) ρ H' acc:=by
  obtain ⟨x1,F,rfl,e3,rfl,hF,hF2,hF3⟩:=h
  obtain ⟨rfl,hkl⟩:=rngL_get hx
  have hkl:k<R.length:=hkl
  have hr:R[k]? = some R[k]:=List.getElem?_eq_getElem hkl
  rw [Int.zero_add]
  refine .take _ rfl evi_nil (by rw [List.length_map,hF]; exact c40 (Nat.le_trans (Nat.le_of_lt hkl) hl) (by decide)) (w_call (evs_cons (ev_var rfl) (evs_cons (ev_var rfl) evs_nil)) (successors_spec (e3 _ _ hR2) hr hl fun f H4 M=>⟨_,F ++ [f],rfl,e3.trans M.e,map_one,?_,all_app hF2 (e3.none M.n),fun i r' f' hi hf'=>app_get hF hf' (fun h=>M.e _ _ (hF3 i r' f' hi h)) fun h1 h2=>?_⟩))
  · rw [List.length_append,hF]; rfl
  · subst h1; subst h2
    obtain rfl:=Option.some.inj (hr.symm.trans hi)
    exact M.g
theorem early_turn {n:Nat} {H4:AH} {k m:Nat} {x:V} {ρ:Env} {H':AH} {acc:List V} (hm:m<=40) (hx:(rngL 0 (m:Int))[k]? = some x) (h:EarI H4 k ρ H' acc):CTurn (CN (n+5)) (.one 1) x [] (.list []) (EarI H4 (k+1)) ρ H' acc:=by
  obtain ⟨x1,E,rfl,e5,rfl,hE,hE2,hE3⟩:=h
  have hkl:k<m:=(rngL_get hx).2
  refine .take _ rfl evi_nil (by rw [List.length_map,hE]; exact c40 (Nat.le_trans (Nat.le_of_lt hkl) hm) (by decide)) (evn_list evs_nil _ fun e he=>⟨_,E ++ [e],rfl,e5.trans (ext_set .rfl he),map_one,?_,nodup_app hE2 (fun hm=>nomatch (hE3 e hm).2.symm.trans he),all_app (fun e' h1=>⟨(hE3 e' h1).1,(set_other (ne_of_none (hE3 e' h1).2 he)).trans (hE3 e' h1).2⟩) ⟨e5.none he,set_same⟩⟩)
  rw [List.length_append,hE]; rfl
structure LA where
  a:Nat
  b:Nat
  af:Nat
  fo:Nat
  ea:Nat
noncomputable def envL (A:LA) (n:Nat) (x4 x7 x8 x9 x10 x11 x12:Option V):Env:=[some (.ref A.a),some (.int n),some (.ref A.b),some (.ref A.af),x4,some (.ref A.fo),some (.ref A.ea),x7,x8,x9,x10,x11,x12]
structure Gr (E:List Nat) (ea n m:Nat) (G:Nat->List Nat) (H':AH):Prop where
  ea:H' ea=some (.list (E.map V.ref))
  g:∀ (t:Nat) e,E[t]? = some e->H' e=some (.list (natL (G t)))
  r:∀ t,∀ x ∈ G t,x<n
  l:∀ t,(G t).length<=m
noncomputable def upd (G:Nat->List Nat) (t k s:Nat):List Nat:=if s=t then G t ++ [k] else G s
theorem upd_mem {G:Nat->List Nat} {t k s i:Nat} (h:i ∈ G s):i ∈ upd G t k s:=by
  unfold upd
  split
  · rename_i e; subst e; exact List.mem_append_left _ h
  · exact h
theorem upd_new {G:Nat->List Nat} {t k:Nat}:k ∈ upd G t k t:=by unfold upd; rw [if_pos rfl]; exact List.mem_append_right _ (.head _)
theorem Gr.add {E:List Nat} {ea n m t e k:Nat} {G:Nat->List Nat} {H H':AH} (g:Gr E ea n m G H) (nd:E.Nodup) (hea:ea ∉ E) (he:E[t]? = some e) (hk:k<n) (mu:Mut H e (.list (natL (G t) ++ [.int k])) H'):Gr E ea n (m+1) (upd G t k) H' where
  ea:=(mu.o ea fun h=>hea (h ▸ List.mem_of_getElem? he)).trans g.ea
  g s e' he':=by
    unfold upd
    split
    · rename_i h; subst h
      obtain rfl:=Option.some.inj (he.symm.trans he')
      rw [mu.g,natL_app]
    · rename_i h
      exact (mu.o e' fun h'=>h (nodup_inj nd he' (h' ▸ he))).trans (g.g s e' he')
  r s x hx:=by
    unfold upd at hx
    split at hx
    · exact (List.mem_append.mp hx).elim (g.r _ _) fun h=>List.mem_singleton.mp h ▸ hk
    · exact g.r _ _ hx
  l s:=by
    unfold upd
    split
    · rw [List.length_append]; exact Nat.succ_le_succ (g.l t)
    · exact Nat.le_succ_of_le (g.l s)
inductive GrI (H4:AH) (A:LA) (R:List Row) (E:List Nat) (k:Nat) (ρ:Env) (H':AH):Prop
  | mk (x4 x7:Option V) (G:Nat->List Nat) (hρ:ρ = envL A R.length x4 x7 none none none none none) (e:Ext H4 H') (g:Gr E A.ea R.length (2*k) G H') (c:∀ i<k,∀ r t,R[i]? = some r->t ∈ succU R.length i r->i ∈ G t.toNat)
inductive GrJ (H4:AH) (A:LA) (R:List Row) (E:List Nat) (k:Nat) (r:Row) (j:Nat) (ρ:Env) (H':AH):Prop
  | mk (x7:Option V) (G:Nat->List Nat) (hρ:ρ = envL A R.length (some (.int k)) x7 none none none none none) (e:Ext H4 H') (g:Gr E A.ea R.length (2*k+j) G H') (c:∀ i<k,∀ r t,R[i]? = some r->t ∈ succU R.length i r->i ∈ G t.toNat)
    (cj:∀ j'<j,∀ t,(sortI (succU R.length k r))[j']? = some t->k ∈ G t.toNat)
theorem graph_in {n:Nat} {H4:AH} {A:LA} {R:List Row} {E:List Nat} {k j:Nat} {r:Row} {x:V} {ρ:Env} {H':AH} {Q:PO} (hl:R.length<=40) (hk:k<R.length) (hE:E.length=R.length) (nd:E.Nodup) (hea:A.ea ∉ E) (hE4:∀ e ∈ E,H4 e=none) (hx:(succV R.length k r)[j]? = some x) (h:GrJ H4 A R E k r j ρ H') :
    Turn (CN (n+5)) (.one 7) x f_liveness_l0 (Body (GrJ H4 A R E k r (j+1)) Q) ρ H':=by
  obtain ⟨x7,G,rfl,e8,g,hc,hj⟩:=h
  refine map_get hx fun y hy hv=>?_
  subst hv
  have hyr:=succU_range (mem_sortI.mp (List.mem_of_getElem? hy))
  obtain ⟨t,rfl⟩:=Int.eq_ofNat_of_zero_le hyr.1
  have htl:t<E.length:=hE ▸ Int.ofNat_lt.mp hyr.2
  have he:E[t]? = some E[t]:=List.getElem?_eq_getElem htl
  have hem:=List.mem_of_getElem? he
  have hll:(natL (G t)).length<10000:=by
    have h1:=(List.getElem?_eq_some_iff.mp hy).1
    rw [len_sortI] at h1
    have h2:=succU_len (n:=R.length) (i:=k) (r:=r)
    have h3:=g.l t
    rw [natL_len]; omega
  refine ⟨_,rfl,r_append (ev_sub (ev_var rfl) (ev_var rfl) (sub_nth g.ea (by rw [List.getElem?_map,he]; rfl) (c40 (Nat.le_trans (Nat.le_of_lt (hE ▸ htl)) hl) (by decide)))) (g.g t _ he) hll (ev_var rfl) fun H9 m9=>rest_nil ⟨_,upd G t k,rfl,m9.ext e8 (hE4 _ hem),g.add nd hea he hk m9,fun i hi r' t' h1 h2=>upd_mem (hc i hi r' t' h1 h2),fun j' hj' t' ht'=>lt_succ_cases hj' (fun h=>upd_mem (hj j' h t' ht')) fun h=>?_⟩⟩
  subst h
  obtain rfl:=Option.some.inj (hy.symm.trans ht')
  exact upd_new
theorem graph_out {n:Nat} {H4:AH} {A:LA} {R:List Row} {E F:List Nat} {k:Nat} {x:V} {ρ:Env} {H':AH} {Q:PO} (hl:R.length<=40) (hE:E.length=R.length) (nd:E.Nodup) (hea:A.ea ∉ E) (hE4:∀ e ∈ E,H4 e=none) (hF:F.length=R.length) (gfo:H4 A.fo=some (.list (F.map V.ref)))
    (hF4:∀ (i:Nat) r f,R[i]? = some r->F[i]? = some f->H4 f=some (.list (succV R.length i r))) (hx:(rngL 0 (R.length:Int))[k]? = some x) (h:GrI H4 A R E k ρ H') :
    Turn (CN (n+5)) (.one 4) x f_liveness_l1 (Body (GrI H4 A R E (k+1)) Q) ρ H':=by
  obtain ⟨x4,x7,G,rfl,e7,g,hc⟩:=h
  obtain ⟨rfl,hkl⟩:=rngL_get hx
  have hkl:k<R.length:=hkl
  rw [Int.zero_add]
  have hr:R[k]? = some R[k]:=List.getElem?_eq_getElem hkl
  have hf:F[k]? = some (F[k]'(hF ▸ hkl)):=List.getElem?_eq_getElem _
  have gf4:=hF4 k _ _ hr hf
  have gf:=e7 _ _ gf4
  refine ⟨_,rfl,r_for CN_Mono (ev_sub (ev_var rfl) (ev_var rfl) (sub_nth (e7 _ _ gfo) (by rw [List.getElem?_map,hf]; rfl) (c40 (Nat.le_trans (Nat.le_of_lt hkl) hl) (by decide)))) (keys_list gf) (iter_list gf) (GrJ H4 A R E k R[k]) ?_ (fun j v ρ H' hv hJ=>graph_in hl hkl hE nd hea hE4 hv hJ) ⟨_,G,rfl,e7,g,hc,fun j' h=>nomatch h⟩ ?_⟩
  · rintro j ρ H' ⟨uu,uu,uu,e8,uu⟩
    exact still_list (e8 _ _ gf4)
  · rintro ρ H8 ⟨y7,G,rfl,e8,g,hc,hj⟩
    rw [List.length_map] at hj g
    have hs:(sortI (succU R.length k R[k])).length<=2:=by rw [len_sortI]; exact succU_len
    refine rest_nil ⟨_,_,G,rfl,e8,⟨g.ea,g.g,g.r,fun t=>Nat.le_trans (g.l t) (Nat.add_le_add_left hs _)⟩,fun i hi r' t h1 h2=>lt_succ_cases hi (fun h=>hc i h r' t h1 h2) fun h=>?_⟩
    subst h
    obtain rfl:=Option.some.inj (hr.symm.trans h1)
    obtain ⟨j,hj'⟩:=List.getElem?_of_mem (mem_sortI.mpr h2)
    exact hj j (List.getElem?_eq_some_iff.mp hj').1 t hj'
end Mine.Wk
end
section
namespace Mine.Wk
open PySem
structure Fm (H H7:AH) (b af:Nat) (H':AH):Prop where
  e:Ext H H'
  k:∀ x o,H7 x=some o->x ≠ b->x ≠ af->H' x=some o
theorem Fm.mut {H H7:AH} {b af y:Nat} {o:AO} {H1 H2:AH} (f:Fm H H7 b af H1) (m:Mut H1 y o H2) (hy:H y=Option.none) (hy':H7 y=Option.none \/ y=b \/ y=af):Fm H H7 b af H2 :=
  ⟨m.ext f.e hy,fun x o h1 h2 h3=>(m.o x (hy'.elim (ne_of_none h1) fun h=>h.elim (fun h=>h ▸ h2) fun h=>h ▸ h3)).trans (f.k x o h1 h2 h3)⟩
structure LvD (H H7:AH) (b af w wt:Nat):Prop where
  nb:H b=none
  naf:H af=none
  nw:H w=none
  nwt:H wt=none
  w7:H7 w=none
  wt7:H7 wt=none
  baf:b ≠ af
  wb:w ≠ b
  waf:w ≠ af
  wtb:wt ≠ b
  wtaf:wt ≠ af
  wwt:w ≠ wt
structure LvS (H H7:AH) (b af w wt:Nat) (B Af W:List Nat) (T:List Bool) (H':AH):Prop where
  fm:Fm H H7 b af H'
  gb:H' b=some (.list (natL B))
  gaf:H' af=some (.list (natL Af))
  gw:H' w=some (.list (natL W))
  gwt:H' wt=some (.list (T.map V.bool))
section
variable {H H7 H' H'':AH} {b af w wt:Nat} {B Af W X:List Nat} {T T2:List Bool}
theorem LvS.setW (s:LvS H H7 b af w wt B Af W T H') (D:LvD H H7 b af w wt) (m:Mut H' w (.list (natL X)) H''):LvS H H7 b af w wt B Af X T H'' :=
  ⟨s.fm.mut m D.nw (.inl D.w7),(m.o b D.wb.symm).trans s.gb,(m.o af D.waf.symm).trans s.gaf,m.g,(m.o wt D.wwt.symm).trans s.gwt⟩
theorem LvS.setT (s:LvS H H7 b af w wt B Af W T H') (D:LvD H H7 b af w wt) (m:Mut H' wt (.list (T2.map V.bool)) H''):LvS H H7 b af w wt B Af W T2 H'' :=
  ⟨s.fm.mut m D.nwt (.inl D.wt7),(m.o b D.wtb.symm).trans s.gb,(m.o af D.wtaf.symm).trans s.gaf,(m.o w D.wwt).trans s.gw,m.g⟩
theorem LvS.setA (s:LvS H H7 b af w wt B Af W T H') (D:LvD H H7 b af w wt) (m:Mut H' af (.list (natL X)) H''):LvS H H7 b af w wt B X W T H'' :=
  ⟨s.fm.mut m D.naf (.inr (.inr rfl)),(m.o b D.baf).trans s.gb,m.g,(m.o w D.waf).trans s.gw,(m.o wt D.wtaf).trans s.gwt⟩
theorem LvS.setB (s:LvS H H7 b af w wt B Af W T H') (D:LvD H H7 b af w wt) (m:Mut H' b (.list (natL X)) H''):LvS H H7 b af w wt X Af W T H'' :=
  ⟨s.fm.mut m D.nb (.inr (.inl rfl)),m.g,(m.o af D.baf.symm).trans s.gaf,(m.o w D.wb).trans s.gw,(m.o wt D.wtb).trans s.gwt⟩
end
structure Kp (H7:AH) (b af x:Nat) (o:AO):Prop where
  g:H7 x=some o
  nb:x ≠ b
  na:x ≠ af
theorem Fm.at {H H7 H':AH} {b af x:Nat} {o:AO} (f:Fm H H7 b af H') (p:Kp H7 b af x o):H' x=some o:=f.k x o p.g p.nb p.na
structure LvF (R:List Row) (A:LA) (F E:List Nat) (G:Nat->List Nat) (H7:AH):Prop where
  fo:Kp H7 A.b A.af A.fo (.list (F.map V.ref))
  f:∀ (i:Nat) r f,R[i]? = some r->F[i]? = some f->Kp H7 A.b A.af f (.list (succV R.length i r))
  ea:Kp H7 A.b A.af A.ea (.list (E.map V.ref))
  e:∀ (t:Nat) e,E[t]? = some e->Kp H7 A.b A.af e (.list (natL (G t)))
  Fl:F.length=R.length
  El:E.length=R.length
  gr:∀ t,∀ x ∈ G t,x<R.length
  gl:∀ t,(G t).length<=80
  gm:∀ (i:Nat) r t,R[i]? = some r->t ∈ succU R.length i r->i ∈ G t.toNat
structure WkS (n:Nat) (T0:List Bool) (G:List Nat) (k:Nat) (W:List Nat) (T:List Bool):Prop where
  tl:T.length=n
  nd:W.Nodup
  wt:∀ x ∈ W,T[x]? = some true
  tw:∀ x:Nat,T[x]? = some true->x ∈ W
  up:∀ x:Nat,T0[x]? = some true->T[x]? = some true
  ms:∀ j' x:Nat,j'<k->G[j']? = some x->T[x]? = some true
theorem WkS.len {n k:Nat} {T0 T:List Bool} {G W:List Nat} (h:WkS n T0 G k W T):W.length<=n:=nodup_len_nat _ _ h.nd fun x hx=>h.tl ▸ (List.getElem?_eq_some_iff.mp (h.wt x hx)).1
theorem WkS.skip {n k s:Nat} {T0 T:List Bool} {G W:List Nat} (h:WkS n T0 G k W T) (hs:G[k]? = some s) (ht:T[s]? = some true):WkS n T0 G (k+1) W T :=
  ⟨h.tl,h.nd,h.wt,h.tw,h.up,fun j' x hj hx=>lt_succ_cases hj (fun hj=>h.ms j' x hj hx) fun hj=>by subst hj; obtain rfl:=Option.some.inj (hs.symm.trans hx); exact ht⟩
theorem WkS.wake {n k s:Nat} {T0 T:List Bool} {G W:List Nat} (h:WkS n T0 G k W T) (hs:G[k]? = some s) (ht:T[s]? = some false):WkS n T0 G (k+1) (W ++ [s]) (T.set s true):=by
  have hsl:s<T.length:=(List.getElem?_eq_some_iff.mp ht).1
  have up:∀ {x:Nat},T[x]? = some true->(T.set s true)[x]? = some true:=fun hx=>by
    rw [get_set hsl]; split
    · rfl
    · exact hx
  have at_:(T.set s true)[s]? = some true:=by rw [get_set hsl,if_pos rfl]
  refine ⟨(List.length_set ..).trans h.tl,nodup_app h.nd (fun hm=>nomatch (h.wt s hm).symm.trans ht),all_app (fun x hx=>up (h.wt x hx)) at_,fun x hx=>?_,fun x hx=>up (h.up x hx),fun j' x hj hx=>lt_succ_cases hj (fun hj=>up (h.ms j' x hj hx)) fun hj=>?_⟩
  · rw [get_set hsl] at hx
    split at hx
    · rename_i e; subst e; exact List.mem_append_right _ (.head _)
    · exact List.mem_append_left _ (h.tw x hx)
  · subst hj
    obtain rfl:=Option.some.inj (hs.symm.trans hx)
    exact at_
theorem ev_iteN {C:Cl} {ρ:Env} {H:AH} {t a b:ME} {c:Bool} {x y:Nat} (h:EvT C t ρ H c) (h1:Ev C a ρ H (.int x)) (h2:Ev C b ρ H (.int y)):Ev C (.ite t a b) ρ H (.int ((if c=true then x else y:Nat):Int)):=by
  rcases c with uu | uu
  · exact ev_iteF h h2
  · exact ev_iteT h h1
noncomputable def accN (B:List Nat) (l:List Int) (k:Nat):Nat:=l.foldl (fun k t=>k ||| B.getD t.toNat 0) k
inductive AccI (A:LA) (n i w wt:Nat) (B:List Nat) (l:List Int) (k0:Nat) (x11 x12:Option V) (H1:AH) (k:Nat) (ρ:Env) (H':AH):Prop
  | mk (x7:Option V) (hρ:ρ = envL A n (some (.int i)) x7 (some (.ref w)) (some (.ref wt)) (some (.int (accN B (l.take k) k0))) x11 x12) (h:H'=H1)
inductive WakI (H H7:AH) (A:LA) (n i w wt ka kv:Nat) (y7:Option V) (B Af:List Nat) (T0:List Bool) (G:List Nat) (k:Nat) (ρ:Env) (H':AH):Prop
  | mk (x12:Option V) (W:List Nat) (T:List Bool) (hρ:ρ = envL A n (some (.int i)) y7 (some (.ref w)) (some (.ref wt)) (some (.int ka)) (some (.int kv)) x12) (s:LvS H H7 A.b A.af w wt B Af W T H') (k:WkS n T0 G k W T)
inductive LvJ (H H7:AH) (A:LA) (R:List Row) (w wt:Nat) (k:Nat) (ρ:Env) (H':AH):Prop
  | mk (x4 x7 x10 x11 x12:Option V) (B Af W:List Nat) (T:List Bool) (hρ:ρ = envL A R.length x4 x7 (some (.ref w)) (some (.ref wt)) x10 x11 x12) (s:LvS H H7 A.b A.af w wt B Af W T H') (lv:LV R B Af W T) (m:meas R.length B W<=k)
section
variable {n:Nat} {H H7:AH} {A:LA} {R:List Row} {w wt:Nat}
theorem wake_turn {i ka kv k:Nat} {y7:Option V} {B Af:List Nat} {T0:List Bool} {G:List Nat} {x:V} {ρ:Env} {H':AH} {Q:PO} (hl:R.length<=40) (D:LvD H H7 A.b A.af w wt) (hG:∀ x ∈ G,x<R.length) (hx:(natL G)[k]? = some x) (h:WakI H H7 A R.length i w wt ka kv y7 B Af T0 G k ρ H') :
    Turn (CN (n+5)) (.one 12) x f_liveness_l3 (Body (WakI H H7 A R.length i w wt ka kv y7 B Af T0 G (k+1)) Q) ρ H':=by
  obtain ⟨x12,W,T,rfl,s,wk⟩:=h
  refine map_get hx fun t ht hv=>?_
  subst hv
  have htl:t<T.length:=wk.tl ▸ hG t (List.mem_of_getElem? ht)
  have hts:T[t]? = some T[t]:=List.getElem?_eq_getElem htl
  have ht4:t<100000:=c40 (Nat.le_trans (Nat.le_of_lt (hG t (List.mem_of_getElem? ht))) hl) (by decide)
  refine ⟨_,rfl,r_if CN_Mono (evt_not (evt_sub (ev_var rfl) (ev_var rfl) (sub_nth s.gwt (by rw [List.getElem?_map,hts]; rfl) ht4) rfl)) (fun hc=>?_) fun hc=>?_⟩
  · rw [not_e' hc] at hts
    refine r_storeList ev_bool (ev_var rfl) (ev_var rfl) s.gwt ((List.length_map _).symm ▸ htl) ht4 fun H1 m1=>?_
    rw [boolL_set] at m1
    have s1:=s.setT D m1
    refine r_append (ev_var rfl) s1.gw (by rw [natL_len]; exact c40 (Nat.le_trans wk.len hl) (by decide)) (ev_var rfl) fun H2 m2=>rest_nil ?_
    rw [natL_app] at m2
    exact ⟨_,_,_,rfl,s1.setW D m2,wk.wake ht hts⟩
  · rw [not_f' hc] at hts
    exact rest_nil ⟨_,W,T,rfl,s,wk.skip ht hts⟩
theorem acc_turn {i k k0:Nat} {B:List Nat} {l:List Int} {x11 x12:Option V} {x:V} {ρ:Env} {H1 H':AH} {Q:PO} (hl:B.length<=40) (gb:H1 A.b=some (.list (natL B))) (hr:∀ y ∈ l,0<=y/\y<(B.length:Int)) (hx:(l.map V.int)[k]? = some x) (h:AccI A R.length i w wt B l k0 x11 x12 H1 k ρ H') :
    Turn (CN (n+5)) (.one 7) x f_liveness_l2 (Body (AccI A R.length i w wt B l k0 x11 x12 H1 (k+1)) Q) ρ H':=by
  obtain ⟨y7,rfl,rfl⟩:=h
  refine map_get hx fun y hy hv=>?_
  subst hv
  have hyr:=hr y (List.mem_of_getElem? hy)
  obtain ⟨t,rfl⟩:=Int.eq_ofNat_of_zero_le hyr.1
  have htl:t<B.length:=Int.ofNat_lt.mp hyr.2
  refine ⟨_,rfl,r_assign (ev_lor (ev_var rfl) (ev_sub (ev_var rfl) (ev_var rfl) (sub_nat gb htl (c40 (Nat.le_trans (Nat.le_of_lt htl) hl) (by decide))))) (rest_nil ⟨some (.int t),?_,rfl⟩)⟩
  rw [List.take_add_one,hy]
  unfold accN
  rw [List.foldl_append]
  rfl
theorem live_turn {F E:List Nat} {G:Nat->List Nat} {Q:PO} {ss:List MS} (hl:R.length<=40) (hR:H A.a=some (.list (R.map rowV))) (hok:∀ (i:Nat) r,R[i]? = some r->rOk r) (D:LvD H H7 A.b A.af w wt) (L:LvF R A F E G H7)
    (q:∀ Af FL x4 x7 x10 x11 x12 H',Ext H H'->H' A.af=some (.list (natL Af))->LiveOK R Af FL->rest (CN (n+5)) ss Q (envL A R.length x4 x7 (some (.ref w)) (some (.ref wt)) x10 x11 x12) H') {k:Nat} {ρ:Env} {H':AH} (h:LvJ H H7 A R w wt k ρ H') :
    WTurn (CN (n+5)) (.cmp (.bi "len" [.var 8]) [.gt] [.int 0]) f_liveness_l4 ss (LvJ H H7 A R w wt) Q k ρ H':=by
  obtain ⟨x4,x7,x10,x11,x12,B,Af,W,T,rfl,s,lv,hm⟩:=h
  have hWl:=Nat.le_trans lv.wlen hl
  have tw:EvT (CN (n+5)) (.cmp (.bi "len" [.var 8]) [.gt] [.int 0]) (envL A R.length x4 x7 (some (.ref w)) (some (.ref wt)) x10 x11 x12) H' (decide (0<W.length)) :=
    evt_cmp (ev_bi (evs_cons (ev_var rfl) evs_nil) (len_map s.gw (c40' hWl (by decide)))) ev_int (congrArg some (decide_eq_decide.mpr (Int.ofNat_lt (n:=0))))
  by_cases h0:0<W.length
  · obtain ⟨W',i,rfl⟩:∃ W' t,W=W' ++ [t]:=⟨W.dropLast,W.getLast (List.ne_nil_of_length_pos h0),(List.dropLast_concat_getLast _).symm⟩
    rw [decide_eq_true h0] at tw
    obtain ⟨hi,hp1,hp2,hp3⟩:=lv.pop
    have hi40:i<=40:=Nat.le_trans (Nat.le_of_lt hi) hl
    have hiM:i<100000:=c40 hi40 (by decide)
    have hr:R[i]? = some R[i]:=List.getElem?_eq_getElem hi
    have hiB:i<B.length:=lv.bl.symm ▸ hi
    have hiA:i<Af.length:=lv.al.symm ▸ hi
    have hiT:i<T.length:=lv.tl.symm ▸ hi
    have mpos:meas R.length B W'+1=meas R.length B (W' ++ [i]):=by unfold meas; rw [List.length_append,Nat.add_right_comm]; rfl
    obtain ⟨j,rfl⟩:∃ j,k=j+1:=by
      rcases k with uu | k
      · exact absurd (Nat.le_trans (Nat.le_of_eq mpos) hm) (Nat.not_succ_le_zero _)
      · exact ⟨k,rfl⟩
    have gw:=s.gw
    rw [<- natL_app] at gw
    refine .go tw j rfl (r_pop (v:=.int i) (ev_var rfl) gw (by rw [natL_len]; rw [List.length_append] at hWl; exact c40 hWl (by decide)) fun H1 m1=>?_)
    have s1:=s.setW D m1
    refine r_storeList ev_bool (ev_var rfl) (ev_var rfl) s1.gwt ((List.length_map _).symm ▸ hiT) hiM fun H2 m2=>?_
    rw [boolL_set] at m2
    have s2:=s1.setT D m2
    have hf:F[i]? = some (F[i]'(L.Fl ▸ hi)):=List.getElem?_eq_getElem _
    have gf:=s2.fm.at (L.f i _ _ hr hf)
    refine r_assign (ev_iteN (y:=0) (x:=262143) (evt_call (evs_cons (ev_var rfl) (evs_cons (ev_var rfl) evs_nil)) (fun uu q=>leaves_spec (s2.fm.e _ _ hR) hr hl q) rfl) ev_glob ev_int) ?_
    refine r_for CN_Mono (ev_sub (ev_var rfl) (ev_var rfl) (sub_nth (s2.fm.at L.fo) (by rw [List.getElem?_map,hf]; rfl) hiM)) (keys_list gf) (iter_list gf) (AccI A R.length i w wt B (sortI (succU R.length i R[i])) (if leavesF R.length i R[i]=true then 262143 else 0) x11 x12 H2) ?_
      (fun k v ρ H' hv hI=>acc_turn (lv.bl ▸ hl) s2.gb (fun y hy=>lv.bl ▸ succU_range (mem_sortI.mp hy)) hv hI) ⟨x7,rfl,rfl⟩ ?_
    · rintro k ρ H' ⟨uu,uu,rfl⟩
      exact still_list gf
    rintro ρ H' ⟨y7,rfl,rfl⟩
    rw [List.length_map,List.take_length]
    have hkeep:=lv.keep hr
    have hchange:=fun W'' G T''=>lv.change (W':=W'') (G:=G) (T':=T'') hr (hok i _ hr)
    have hle:=(lv.mono i _ hr).le
    have ek:accN B (sortI (succU R.length i R[i])) (if leavesF R.length i R[i]=true then 262143 else 0)=aftN B R.length i R[i]:=rfl
    rw [ek]
    refine r_storeList (ev_var rfl) (ev_var rfl) (ev_var rfl) s2.gaf (natL_len.symm ▸ hiA) hiM fun H3 m3=>?_
    rw [natL_set] at m3
    have s3:=s2.setA D m3
    refine r_assign (ev_call (evs_cons (row_at rfl rfl (s3.fm.e _ _ hR) hr hl) (evs_cons (ev_var rfl) evs_nil)) (live_before_ev (hok i _ hr))) ?_
    refine r_if CN_Mono (evt_cmp (op:=.ne) (ev_var rfl) (ev_sub (ev_var rfl) (ev_var rfl) (sub_nat s3.gb hiB hiM)) (c:=!decide (liveN R[i] (aftN B R.length i R[i])=B.getD i 0)) (congrArg some (congrArg (!·) (ibeq.trans (decide_eq_decide.mpr Int.ofNat_inj))))) (fun hc=>?_) fun hc=>?_
    · have hv:=of_decide_eq_false (not_e' hc)
      refine r_storeList (ev_var rfl) (ev_var rfl) (ev_var rfl) s3.gb (natL_len.symm ▸ hiB) hiM fun H4 m4=>?_
      rw [natL_set] at m4
      have s4:=s3.setB D m4
      have he:E[i]? = some (E[i]'(L.El ▸ hi)):=List.getElem?_eq_getElem _
      have ke:=L.e i _ he
      have ge:=s4.fm.at ke
      refine r_for CN_Mono (ev_sub (ev_var rfl) (ev_var rfl) (sub_nth (s4.fm.at L.ea) (by rw [List.getElem?_map,he]; rfl) hiM)) (keys_list ge) (iter_list ge) (WakI H H7 A R.length i w wt _ _ y7 _ _ (T.set i false) (G i)) ?_
        (fun k v ρ H' hv hI=>wake_turn hl D (L.gr i) hv hI) ⟨x12,W',T.set i false,rfl,s4,⟨(List.length_set ..).trans lv.tl,hp1,hp2,hp3,fun x h=>h,fun j' x h=>nomatch h⟩⟩ ?_
      · rintro k ρ H' ⟨uu,uu,uu,uu,s5,uu⟩
        exact still_list (s5.fm.at ke)
      · rintro ρ H' ⟨z12,W2,T2,rfl,s5,wk⟩
        have lv':=hchange W2 (G i) T2 (fun j' r' hj hs=>L.gm j' r' (i:Int) hj hs) wk.tl wk.nd wk.wt wk.tw wk.up fun x hx=>by
          obtain ⟨j',hj⟩:=List.getElem?_of_mem hx
          exact wk.ms j' x (natL_len.symm ▸ (List.getElem?_eq_some_iff.mp hj).1) hj
        exact rest_nil ⟨_,_,_,_,_,_,_,W2,T2,rfl,s5,lv',Nat.le_of_lt_succ (Nat.lt_of_lt_of_le (meas_change lv lv' (Nat.lt_of_le_of_ne hle fun h=>hv h.symm)) hm)⟩
    · exact rest_nil ⟨_,_,_,_,_,B,_,W',_,rfl,s3,hkeep (of_decide_eq_true (not_f' hc)),Nat.le_of_succ_le_succ (Nat.le_trans (Nat.le_of_eq mpos) hm)⟩
  · have hW0:W=[]:=List.length_eq_zero_iff.mp (Nat.eq_zero_of_not_pos h0)
    subst hW0
    have htf:∀ (i:Nat) r,R[i]? = some r->T[i]? = some false:=fun i r hi=>by
      have h3:i<T.length:=lv.tl.symm ▸ (List.getElem?_eq_some_iff.mp hi).1
      have h2:T[i]? = some T[i]:=List.getElem?_eq_getElem h3
      rcases hb:T[i] with uu | uu <;> rw [hb] at h2
      · exact h2
      · exact nomatch lv.tw i h2
    exact .stop tw (q Af _ _ _ _ _ _ H' s.fm.e s.gaf (liveOK_of lv.al hok (fun i r hi=>(lv.done i r hi (htf i r hi)).1) fun i r hi=>(lv.done i r hi (htf i r hi)).2))
end
end Mine.Wk
end
section
namespace Mine.Wk
open PySem
theorem natL_rep {n:Nat}:List.replicate n (V.int 0)=natL (List.replicate n 0):=by rw [natL,List.map_replicate]; rfl
theorem getD_rep {n t:Nat}:(List.replicate n 0).getD t 0=0:=by
  rw [List.getD_eq_getElem?_getD,List.getElem?_replicate]; split <;> rfl
theorem lv_start {R:List Row}:LV R (List.replicate R.length 0) (List.replicate R.length 0) (List.range R.length) (List.replicate R.length true) where
  bl:=List.length_replicate
  al:=List.length_replicate
  tl:=List.length_replicate
  wn:=List.nodup_range
  wt x hx:=by rw [List.getElem?_replicate,if_pos (List.mem_range.mp hx)]
  tw x hx:=by have:=(List.getElem?_eq_some_iff.mp hx).1; rw [List.length_replicate] at this; exact List.mem_range.mpr this
  b18 t:=by rw [getD_rep]; decide
  mono i r hi:=by rw [getD_rep]; exact .zero
  done i r hi ht:=by
    rw [List.getElem?_replicate] at ht
    split at ht <;> exact nomatch ht
theorem liveness_spec {n:Nat} {H:AH} {Q:V->AH->Prop} {a:Nat} {R:List Row} (hR:H a=some (.list (R.map rowV))) (hl:R.length<=40) (hok:∀ (i:Nat) r,R[i]? = some r->rOk r)
    (q:∀ b af H' A FL,Ext H H'->H' af=some (.list (natL A))->H af=Option.none->LiveOK R A FL->Q (.tup [.ref b,.ref af]) H'):CN (n+6) "liveness" [.ref a] H Q:=by
  have hn:R.length<=1000:=c40' hl (by decide)
  refine call_of rfl rfl (r_assign (len_at (x:=0) rfl hR hl) (r_fill (n:=R.length) hn (fun uu=>ev_int) (fun uu=>ev_var rfl) fun b H1 M1=>r_fill (n:=R.length) hn (fun uu=>ev_int) (fun uu=>ev_var rfl) fun af H2 M2=>r_assignW CN_Mono ?_))
  have E2:=M1.e.trans M2.e
  refine w_comp CN_Mono (ev_bi (evs_cons (ev_var rfl) evs_nil) (range1 hn)) iter_rng (FolI H2 a R) (fun uu uu uu uu uu=>still_rng) (fun k x ρ H' acc hx h=>follow_turn hl (E2 _ _ hR) hx h) ⟨none,[],rfl,.rfl,rfl,rfl,nofun,fun i r f h1 h2=>nomatch h2⟩ ?_
  rintro ρ H3 acc ⟨x1,F,rfl,e3,rfl,hF,hF2,hF3⟩ fo H4 N4
  rw [rngL_len] at hF
  have hF:F.length=R.length:=hF
  refine r_assignW CN_Mono (w_comp CN_Mono (ev_bi (evs_cons (ev_var rfl) evs_nil) (range1 hn)) iter_rng (EarI H4) (fun uu uu uu uu uu=>still_rng) (fun k x ρ H' acc hx h=>early_turn hl hx h) ⟨none,[],rfl,.rfl,rfl,rfl,.nil,nofun⟩ ?_)
  rintro ρ H5 acc ⟨x1,E,rfl,e5,rfl,hE,hE2,hE3⟩ ea H6 N6
  rw [rngL_len] at hE
  have hE:E.length=R.length:=hE
  have X24:=e3.trans N4.e
  have hF4:∀ (i:Nat) r f,R[i]? = some r->F[i]? = some f->H4 f=some (.list (succV R.length i r)):=fun i r f h1 h2=>N4.e _ _ (hF3 i r f h1 h2)
  have heaE:ea ∉ E:=fun hm=>nomatch (hE3 ea hm).2.symm.trans N6.n
  refine r_for CN_Mono (ev_bi (evs_cons (ev_var rfl) evs_nil) (range1 hn)) keys_rng iter_rng (GrI H4 ⟨a,b,af,fo,ea⟩ R E) (fun uu uu uu uu=>still_rng) (fun k x ρ H' hx h=>graph_out hl hE hE2 heaE (fun e he=>(hE3 e he).1) hF N4.g hF4 hx h)
    ⟨none,none,fun uu=>[],rfl,e5.trans N6.e,⟨N6.g,fun t e he=>N6.e _ _ (hE3 e (List.mem_of_getElem? he)).2,fun t=>nofun,fun t=>Nat.le_refl _⟩,fun i h=>nomatch h⟩ ?_
  rintro ρ H7 ⟨x4,x7,G,rfl,e7,g,hc⟩
  have hn7:(rngL 0 (R.length:Int)).length=R.length:=rngL_len
  rw [hn7] at g hc
  have X27:=X24.trans e7
  have E7:=E2.trans X27
  have gb2:=M2.e _ _ M1.g
  have haf:=M1.e.none M2.n
  have kp:∀ {x:Nat} {o:AO},H2 x=none->H7 x=some o->Kp H7 b af x o:=fun h k=>⟨k,(ne_of_none gb2 h).symm,(ne_of_none M2.g h).symm⟩
  refine r_new (evn_bi (evs_cons (ev_bi (evs_cons (ev_var rfl) evs_nil) (range1 hn)) evs_nil) list_rng) fun w H8 N8=>r_fill (n:=R.length) hn (fun uu=>ev_bool) (fun uu=>ev_var rfl) fun wt H9 M9=>?_
  have wt7:=N8.e.none M9.n
  have D:LvD H H7 b af w wt:=⟨M1.n,haf,E7.none N8.n,E7.none wt7,N8.n,wt7,ne_of_none M1.g M2.n,(ne_of_none gb2 (X27.none N8.n)).symm,(ne_of_none M2.g (X27.none N8.n)).symm,(ne_of_none gb2 (X27.none wt7)).symm,(ne_of_none M2.g (X27.none wt7)).symm,ne_of_none N8.g M9.n⟩
  have L:LvF R ⟨a,b,af,fo,ea⟩ F E G H7:=⟨kp (e3.none N4.n) (e7 _ _ N4.g),fun i r f h1 h2=>kp (hF2 f (List.mem_of_getElem? h2)) (e7 _ _ (hF4 i r f h1 h2)),kp (X24.none (e5.none N6.n)) g.ea,fun t e he=>kp (X24.none (hE3 e (List.mem_of_getElem? he)).1) (g.g t e he),hF,hE,g.r,fun t=>Nat.le_trans (g.l t) (Nat.mul_le_mul_left 2 hl),fun i r t h1 h2=>hc i (List.getElem?_eq_some_iff.mp h1).1 r t h1 h2⟩
  have X79:=N8.e.trans M9.e
  have g8:=M9.e _ _ N8.g
  rw [rngL_nat] at g8
  refine r_while CN_Mono (LvJ H H7 ⟨a,b,af,fo,ea⟩ R w wt) (k:=meas R.length (List.replicate R.length 0) (List.range R.length)) (fun k ρ H' h=>live_turn (n:=n) hl hR hok D L (fun Af FL uu uu uu uu uu H' e g k=>r_ret (ev_tup (evs_cons (ev_var rfl) (evs_cons (ev_var rfl) evs_nil))) (q b af H' Af FL e g haf k)) h)
    ⟨_,_,none,none,none,_,_,_,_,rfl,⟨⟨E7.trans X79,fun x o h1 uu uu=>X79 _ _ h1⟩,?_,?_,g8,M9.g.trans (congrArg (fun l=>some (AO.list l)) (List.map_replicate ..).symm)⟩,lv_start,Nat.le_refl _⟩
  · exact natL_rep ▸ X79 _ _ (X27 _ _ gb2)
  · exact natL_rep ▸ X79 _ _ (X27 _ _ M2.g)
end Mine.Wk
end
section
namespace Mine.Wk
open PySem
structure Ob where
  rows:List Row
  fix:List Nat
  ent:List Nat
  go:Nat
  body:Nat
structure Adr where
  dx:Nat
  ims:Nat
  rws:Nat
  wds:Nat
  dfx:Nat
  fxs:Nat
  ens:Nat
  pts:Nat
  mps:Nat
  cms:Nat
noncomputable def fixV (k:Nat):V:=.tup [.int k,.str "data",.int 0,.int 0]
noncomputable def entV (k:Nat):V:=.tup [.str "code",.int k]
noncomputable def datV:V:=.tup [.str "data",.int 8]
noncomputable def nsOf (A:Adr) (size body:Int):List (String × V) :=
  [("name",.str "M"),("key",.int 5),("imports",.ref A.ims),("rows",.ref A.rws),("data_size",.int size),("words",.ref A.wds),("data_fixups",.ref A.dfx),("fixups",.ref A.fxs),("entries",.ref A.ens),("pointers",.ref A.pts),("maps",.ref A.mps),("commands",.ref A.cms),("body",.int body)]
structure ObjAt (H:AH) (a:Nat) (A:Adr) (o:Ob):Prop where
  hi:H a=some (.inst A.dx)
  hn:H A.dx=some (.ns (nsOf A 128 o.body))
  him:H A.ims=some (.list [])
  hr:H A.rws=some (.list (o.rows.map rowV))
  hw:H A.wds=some (.list [])
  hd:H A.dfx=some (.list [])
  hf:H A.fxs=some (.list (o.fix.map fixV))
  he:H A.ens=some (.list (o.ent.map entV ++ [datV]))
  hp:H A.pts=some (.list [])
  hm:H A.mps=some (.di false [])
  hc:H A.cms=some (.ds false [("Go",.int o.go)])
theorem ObjAt.ext {H H':AH} {a:Nat} {A:Adr} {o:Ob} (h:ObjAt H a A o) (e:Ext H H'):ObjAt H' a A o :=
  ⟨e _ _ h.hi,e _ _ h.hn,e _ _ h.him,e _ _ h.hr,e _ _ h.hw,e _ _ h.hd,e _ _ h.hf,e _ _ h.he,e _ _ h.hp,e _ _ h.hm,e _ _ h.hc⟩
section
variable {H:AH} {a dx:Nat} {A:Adr} {o:Ob} {C:Cl} {ρ:Env} {x:String} {v:V} {j:Nat}
theorem fldAt_of {kvs:List (String × V)} (h:H a=some (.inst dx)) (k:H dx=some (.ns kvs)):fldAt H a=some (dx,kvs):=by unfold fldAt; rw [h]; show (match H dx with | _=>_)=_; rw [k]
theorem ObjAt.at (h:ObjAt H a A o) (e:dget (nsOf A 128 o.body) x=some v):attrF (.ref a) x H=some v:=bind_of (fldAt_of h.hi h.hn) e
theorem ObjAt.ev (h:ObjAt H a A o) (hj:getV ρ j=some (.ref a)) (e:dget (nsOf A 128 o.body) x=some v):Ev C (.attr (.var j) x) ρ H v:=ev_attr (ev_var hj) (h.at e)
end
structure WF (o:Ob):Prop where
  len:o.rows.length<=40
  ok:∀ (i:Nat) r,o.rows[i]? = some r->rOk r
  body:o.body<o.rows.length
  go:o.go<o.rows.length
  ent:∀ e ∈ o.ent,e<o.rows.length
  entl:o.ent.length<=10
  fixl:o.fix.length<=40
  fix:∀ i ∈ o.fix,∃ op a c,o.rows[i]? = some (.mem op a c)/\op ≠ .STB
  falls:∀ (i:Nat) r,o.rows[i]? = some r->fallsF r=true->i+1<o.rows.length
  tgt:∀ (i:Nat) c off,o.rows[i]? = some (.br c off)->0<=(i:Int)+1+off/\(i:Int)+1+off<=o.rows.length/\(c ≠ .NV->(i:Int)+1+off<o.rows.length)
theorem WF.fixlt {o:Ob} (w:WF o) {i:Nat} (h:i ∈ o.fix):i<o.rows.length:=by
  obtain ⟨op,a,c,h1,uu⟩:=w.fix i h
  exact (List.getElem?_eq_some_iff.mp h1).1
theorem r_fix_skip {n:Nat} {H:AH} {Q:PO} {ss b:List MS} {a f:Nat} {A:Adr} {o:Ob} {x2 x3 x4 x5:Option V} (h:ObjAt H a A o)
    (hb:∀ (y:Nat) (K:PO),K .next [some (.ref a),some (.ref f),some (.int y),some (.str "data"),some (.int 0),some (.int 0)] H->rest (CN n) b K [some (.ref a),some (.ref f),some (.int y),some (.str "data"),some (.int 0),some (.int 0)] H)
    (k:∀ x2 x3 x4 x5,rest (CN n) ss Q [some (.ref a),some (.ref f),x2,x3,x4,x5] H):rest (CN n) (.for_ (.many [2,3,4,5]) (.attr (.var 0) "fixups") b::ss) Q [some (.ref a),some (.ref f),x2,x3,x4,x5] H:=by
  refine r_for CN_Mono (h.ev rfl rfl) (keys_list h.hf) (iter_list h.hf) (fun uu ρ H'=>(∃ x2 x3 x4 x5,ρ = [some (.ref a),some (.ref f),x2,x3,x4,x5])/\H'=H) (fun uu uu uu q=>q.2 ▸ still_list h.hf) ?_ ⟨⟨_,_,_,_,rfl⟩,rfl⟩ ?_
  · rintro k x ρ H' hx ⟨⟨x2,x3,x4,x5,rfl⟩,rfl⟩
    refine map_get hx fun y hy hv=>?_
    subst hv
    exact ⟨_,rfl,hb y _ ⟨⟨_,_,_,_,rfl⟩,rfl⟩⟩
  · rintro ρ H' ⟨⟨x2,x3,x4,x5,rfl⟩,rfl⟩
    exact k _ _ _ _
theorem imported_spec {n:Nat} {H:AH} {Q:V->AH->Prop} {a:Nat} {A:Adr} {o:Ob} (hO:ObjAt H a A o) (q:∀ f H',Made H f (.di false []) H'->Q (.ref f) H'):CN (n+1) "imported_calls" [.ref a] H Q :=
  call_of rfl rfl (r_new evn_dict0 fun f H1 N=>r_fix_skip (hO.ext N.e) (fun y K r=>r_ifF CN_Mono (nm_t rfl rfl) (rest_nil r)) fun uu uu uu uu=>r_ret (ev_var rfl) (q f H1 (N.made .rfl)))
theorem own_spec {n:Nat} {H:AH} {Q:V->AH->Prop} {a:Nat} {A:Adr} {o:Ob} (hO:ObjAt H a A o) (q:∀ f H',Made H f (.di false []) H'->Q (.ref f) H'):CN (n+1) "own_addresses" [.ref a] H Q :=
  call_of rfl rfl (r_new evn_dict0 fun f H1 N=>r_fix_skip (hO.ext N.e) (fun y K r=>r_ifF CN_Mono (evt_and (evt_f (nm_t rfl rfl))) (rest_nil r)) fun uu uu uu uu=>r_ret (ev_var rfl) (q f H1 (N.made .rfl)))
inductive FixI (H:AH) (a f:Nat) (o:Ob) (k:Nat) (ρ:Env) (H':AH):Prop
  | mk (x2 x3 x4 x5:Option V) (D:List (Int × V)) (hρ:ρ = [some (.ref a),some (.ref f),x2,x3,x4,x5]) (e:Ext H H') (g:H' f=some (.di false D)) (hk:Keys D o.rows.length) (h:∀ j<k,∀ x,o.fix[j]? = some x->(x:Int) ∈ keys D)
theorem fixed_spec {n:Nat} {H:AH} {Q:V->AH->Prop} {a:Nat} {A:Adr} {o:Ob} (hO:ObjAt H a A o) (w:WF o)
    (q:∀ f H' D,Made H f (.di false D) H'->(∀ i ∈ o.fix,(i:Int) ∈ keys D)->Q (.ref f) H'):CN (n+1) "fixed_rows" [.ref a] H Q:=by
  refine call_of rfl rfl (r_new evn_dict0 fun f H1 N=>?_)
  have h1:=hO.ext N.e
  refine r_for CN_Mono (h1.ev rfl rfl) (keys_list h1.hf) (iter_list h1.hf) (FixI H a f o) ?_ ?_ ⟨_,_,_,_,[],rfl,N.e,N.g,Keys.nil,fun j h=>nomatch h⟩ ?_
  · rintro k ρ H' ⟨uu,uu,uu,uu,D,uu,e2,uu⟩
    exact still_list (hO.ext e2).hf
  · rintro k x ρ H' hx ⟨x2,x3,x4,x5,D,rfl,e2,g2,hk,hin⟩
    refine map_get hx fun y hy hv=>?_
    subst hv
    refine ⟨_,rfl,r_storeDi ev_bool (ev_var rfl) (ev_var rfl) g2 (c40' (Nat.le_trans hk.len w.len) (by decide)) fun H2 m2=>rest_nil ⟨_,_,_,_,_,rfl,m2.ext e2 N.n,m2.g,hk.set (Int.natCast_nonneg y) (Int.ofNat_lt.mpr (w.fixlt (List.mem_of_getElem? hy))),fun j hj z hz=>lt_succ_cases hj (fun h=>dset_keys.mpr (.inl (hin j h z hz))) fun h=>?_⟩⟩
    subst h
    obtain rfl:=Option.some.inj (hy.symm.trans hz)
    exact dset_keys.mpr (.inr rfl)
  · rintro ρ H' ⟨x2,x3,x4,x5,D,rfl,e2,g2,hk,hin⟩
    refine r_ret (ev_var rfl) (q f H' D ⟨N.n,e2,g2⟩ fun x hx=>?_)
    obtain ⟨j,hj⟩:=List.getElem?_of_mem hx
    exact hin j (by rw [List.length_map]; exact (List.getElem?_eq_some_iff.mp hj).1) x hj
theorem r_for0 {C:Cl} {tg:Tgt} {it:ME} {b ss:List MS} {Q:PO} {ρ:Env} {H:AH} (h:EvN C it ρ H (.list [])) (k:∀ a H',New H a (.list []) H'->rest C ss Q ρ H'):rest C (.for_ tg it b::ss) Q ρ H :=
  ⟨h _ fun a ha=>by rw [keys_list set_same]; exact iL (iter_list set_same) ⟨still_list set_same,(k a _ (.mk' ha)).w⟩⟩
theorem table_spec {n:Nat} {H:AH} {Q:V->AH->Prop} {a:Nat} {A:Adr} {o:Ob} (hO:ObjAt H a A o) (q:∀ f H',Made H f (.di false []) H'->Q (.ref f) H'):CN (n+2) "table_rows" [.ref a] H Q :=
  call_of rfl rfl (r_assignW CN_Mono (w_call (evs_cons (ev_var rfl) evs_nil) (own_spec hO fun hl H1 M1=>r_new evn_dict0 fun f H2 N2=>r_for0 (evn_bi (evs_cons (ev_var rfl) evs_nil) (sorted_di (N2.e _ _ M1.g) (by decide))) fun s H3 N3=>
    r_ret (ev_var rfl) (q f H3 ⟨M1.e.none N2.n,(M1.e.trans N2.e).trans N3.e,N3.e _ _ N2.g⟩))))
end Mine.Wk
end
section
namespace Mine.Wk
open PySem
noncomputable def cnt (K:List Bool) (i:Nat):Nat:=(K.take i).count true
theorem cnt_zero {K:List Bool}:cnt K 0=0:=rfl
theorem cnt_succ {K:List Bool} {i:Nat} {b:Bool} (h:K[i]? = some b):cnt K (i+1)=cnt K i+(if b=true then 1 else 0):=by
  unfold cnt
  rw [List.take_add_one,h,List.count_append]
  rcases b with uu | uu <;> rfl
theorem cnt_mono {K:List Bool} {i j:Nat} (h:i<=j):cnt K i<=cnt K j:=by
  have:K.take i=(K.take j).take i:=by rw [List.take_take,Nat.min_eq_left h]
  unfold cnt
  rw [this]
  exact List.Sublist.count_le _ (List.take_sublist _ _)
theorem cnt_le {K:List Bool} {i:Nat}:cnt K i<=i:=Nat.le_trans List.count_le_length (by rw [List.length_take]; exact Nat.min_le_left _ _)
noncomputable def places (K:List Bool) (k:Nat):List Nat:=(List.range k).map (cnt K)
theorem places_len {K:List Bool} {k:Nat}:(places K k).length=k:=(List.length_map _).trans List.length_range
theorem places_at {K:List Bool} {k i:Nat} (h:i<k):(places K k).getD i 0=cnt K i:=by
  rw [List.getD_eq_getElem?_getD,places,List.getElem?_map,List.getElem?_range h]; rfl
theorem places_succ {K:List Bool} {k:Nat}:places K k ++ [cnt K k]=places K (k+1):=by unfold places; rw [List.range_succ,List.map_append]; rfl
theorem sub_place {H:AH} {p m i:Nat} {K:List Bool} (hp:H p=some (.list (natL (places K m)))) (hm:m<=100) (hi:i<m):subF (.ref p) (.int i) H=some (.int ((cnt K i:Nat):Int)):=by
  have:=sub_nat hp (i:=i) (places_len.symm ▸ hi) (Nat.lt_of_lt_of_le hi (Nat.le_trans hm (by decide)))
  rwa [places_at hi] at this
inductive NpI (H:AH) (kp p:Nat) (K:List Bool) (k:Nat) (ρ:Env) (H':AH):Prop
  | mk (x3:Option V) (hρ:ρ = [some (.ref kp),some (.ref p),some (.int (cnt K k:Nat)),x3]) (e:Ext H H') (g:H' p=some (.list (natL (places K k))))
theorem new_places_spec {n:Nat} {H:AH} {Q:V->AH->Prop} {kp:Nat} {K:List Bool} (hK:H kp=some (.list (K.map V.bool))) (hl:K.length<=40)
    (q:∀ p H',Made H p (.list (natL (places K (K.length+1)))) H'->Q (.ref p) H'):CN (n+1) "new_places" [.ref kp] H Q:=by
  refine call_of rfl rfl (r_new (evn_list evs_nil) fun p H1 N=>r_assign ev_int ?_)
  have hK1:=N.e _ _ hK
  have ll:∀ {k:Nat},k<=40->(natL (places K k)).length<10000:=fun h=>by rw [natL_len,places_len]; exact c40 h (by decide)
  refine r_for CN_Mono (ev_var rfl) (keys_list hK1) (iter_list hK1) (NpI H kp p K) ?_ ?_ ⟨_,rfl,N.e,N.g⟩ ?_
  · rintro k ρ H' ⟨x3,rfl,e2,uu⟩
    exact still_list (e2 _ _ hK)
  · rintro k x ρ H' hx ⟨x3,rfl,e2,g2⟩
    refine map_get hx fun y hy hv=>?_
    subst hv
    have hc:=cnt_succ hy
    refine ⟨_,rfl,r_append (ev_var rfl) g2 (ll (Nat.le_trans (Nat.le_of_lt (List.getElem?_eq_some_iff.mp hy).1) hl)) (ev_var rfl) fun H3 m3=>?_⟩
    rw [natL_app,places_succ] at m3
    rcases y with uu | uu
    · exact r_ifF CN_Mono (evt_var rfl rfl) (rest_nil ⟨_,by rw [hc]; rfl,m3.ext e2 N.n,m3.g⟩)
    · exact r_ifT CN_Mono (evt_var rfl rfl) (r_aug rfl ev_int (rest_nil ⟨_,by rw [hc]; rfl,m3.ext e2 N.n,m3.g⟩))
  · rintro ρ H' ⟨x3,rfl,e2,g2⟩
    rw [List.length_map] at g2 ⊢
    refine r_append (ev_var rfl) g2 (ll hl) (ev_var rfl) fun H3 m3=>?_
    rw [natL_app,places_succ] at m3
    exact r_ret (ev_var rfl) (q p H3 ⟨N.n,m3.ext e2 N.n,m3.g⟩)
noncomputable def mvR (K:List Bool) (i:Nat):Row->Row
  | .br c off=>.br c ((cnt K ((i:Int)+1+off).toNat:Int) - (cnt K i:Int) - 1)
  | r=>r
theorem mvR_base {K:List Bool} {i:Nat} {r:Row} (h:isBr r=false):mvR K i r=r:=by rcases r with uu | uu | uu | uu | uu | uu <;> first | rfl | exact absurd h nTF
theorem moved_row_spec {n:Nat} {H:AH} {p m i:Nat} {K:List Bool} {c:Cnd} {off:Int} (hp:H p=some (.list (natL (places K m)))) (hm:m<=100) (hi:i<m)
    (h0:0<=(i:Int)+1+off) (h1:(i:Int)+1+off<m):EvF (CN (n+2)) "moved_row" [rowV (.br c off),.int i,.ref p] H (rowV (mvR K i (.br c off))):=fun Q q=>by
  obtain ⟨t,ht⟩:=Int.eq_ofNat_of_zero_le h0
  have htm:t<m:=Int.ofNat_lt.mp (ht ▸ h1)
  have e:rowV (mvR K i (.br c off)) = .tup [.str "B",.str c.s,.int ((cnt K t:Int) - (cnt K i:Int) - 1),.int 0]:=by
    show V.tup [_,_,.int ((cnt K ((i:Int)+1+off).toNat:Int) - (cnt K i:Int) - 1),_]=_
    rw [ht]; rfl
  rw [e] at q
  refine call_of rfl rfl (r_assign (target_at rfl rfl) ?_)
  rw [ht]
  have sb:∀ {a b:ME} {x y:Int} {ρ:Env},Ev (CN (n+1)) a ρ H (.int x)->Ev (CN (n+1)) b ρ H (.int y)->Ev (CN (n+1)) (.bin .sub a b) ρ H (.int (x - y)):=fun h1 h2=>ev_bin h1 h2 rfl
  exact r_ret (ev_tup (evs_cons (ev_sub (ev_var rfl) ev_int rfl) (evs_cons (ev_sub (ev_var rfl) ev_int rfl) (evs_cons (sb (sb (ev_sub (ev_var rfl) (ev_var rfl) (sub_place hp hm htm)) (ev_sub (ev_var rfl) (ev_var rfl) (sub_place hp hm hi))) ev_int) (evs_cons (ev_sub (ev_var rfl) ev_int rfl) evs_nil))))) q
noncomputable def mv1 (K:List Bool) (R:List Row) (k:Nat):List Row:=match R[k]? with
  | some r=>bif K.getD k false then [mvR K k r] else []
  | none=>[]
noncomputable def mvUpto (K:List Bool) (R:List Row):Nat->List Row
  | 0=>[]
  | k+1=>mvUpto K R k ++ mv1 K R k
theorem mv1_of {K:List Bool} {R:List Row} {k:Nat} {r:Row} {b:Bool} (h:R[k]? = some r) (hb:K[k]? = some b):mv1 K R k=bif b then [mvR K k r] else []:=by
  unfold mv1; rw [h,List.getD_eq_getElem?_getD,hb]; rfl
theorem mvUpto_len {K:List Bool} {R:List Row} (h:R.length=K.length):∀ k,k<=R.length->(mvUpto K R k).length=cnt K k
  | 0,_=>rfl
  | k+1,hk=>by
    have hr:R[k]? = some R[k]:=List.getElem?_eq_getElem hk
    have hkk:K[k]? = some (K[k]'(h ▸ hk)):=List.getElem?_eq_getElem _
    rw [mvUpto,List.length_append,mvUpto_len h k (Nat.le_of_lt hk),cnt_succ hkk,mv1_of hr hkk]
    rcases K[k]'(h ▸ hk) with uu | uu <;> rfl
inductive MvI (H:AH) (a rw kp p aw hd f:Nat) (R:List Row) (K:List Bool) (k:Nat) (ρ:Env) (H':AH):Prop
  | mk (x7 x8:Option V) (hρ:ρ = [some (.ref a),some (.ref rw),some (.ref kp),some (.ref p),some (.ref aw),some (.ref hd),some (.ref f),x7,x8]) (e:Ext H H') (ga:H' aw=some (.di false [])) (gh:H' hd=some (.di false [])) (g:H' f=some (.list ((mvUpto K R k).map rowV)))
theorem moved_turn {n:Nat} {H:AH} {Q:PO} {a rw kp p aw hd f k:Nat} {R:List Row} {K:List Bool} {x:V} {ρ:Env} {H':AH} (hR:H rw=some (.list (R.map rowV))) (hK:H kp=some (.list (K.map V.bool))) (hp:H p=some (.list (natL (places K (R.length+1))))) (hl:R.length<=40) (hkl:K.length=R.length)
    (ht:∀ (i:Nat) c off,R[i]? = some (.br c off)->0<=(i:Int)+1+off/\(i:Int)+1+off<=R.length) (hf:H f=none) (haf:aw ≠ f) (hdf:hd ≠ f) (hx:(rngL 0 (R.length:Int))[k]? = some x) (h:MvI H a rw kp p aw hd f R K k ρ H') :
    Turn (CN (n+2)) (.one 7) x f_moved_rows_l0 (Body (MvI H a rw kp p aw hd f R K (k+1)) Q) ρ H':=by
  obtain ⟨x7,x8,rfl,e4,gaw,ghd,g4⟩:=h
  obtain ⟨rfl,hk⟩:=rngL_get hx
  have hk:k<R.length:=hk
  rw [Int.zero_add]
  have hr:R[k]? = some R[k]:=List.getElem?_eq_getElem hk
  have hb:K[k]? = some (K[k]'(hkl ▸ hk)):=List.getElem?_eq_getElem _
  have hkM:k<100000:=c40 (Nat.le_trans (Nat.le_of_lt hk) hl) (by decide)
  have hm1:=mv1_of hr hb
  refine ⟨_,rfl,r_assign (row_at rfl rfl (e4 _ _ hR) hr hl) (r_if CN_Mono (evt_sub (ev_var rfl) (ev_var rfl) (sub_nth (e4 _ _ hK) (by rw [List.getElem?_map,hb]; rfl) hkM) rfl) (fun hc=>?_) fun hc=>?_)⟩
  · rw [hc] at hm1
    have fin:rest (CN (n+2)) [.expr (.meth (.var 6) "append" [.var 8])] (Body (MvI H a rw kp p aw hd f R K (k+1)) Q) [some (.ref a),some (.ref rw),some (.ref kp),some (.ref p),some (.ref aw),some (.ref hd),some (.ref f),some (.int k),some (rowV (mvR K k R[k]))] H' :=
      r_append (ev_var rfl) g4 (by rw [List.length_map,mvUpto_len hkl.symm k (Nat.le_of_lt hk)]; exact c40 (Nat.le_trans cnt_le (Nat.le_trans (Nat.le_of_lt hk) hl)) (by decide)) (ev_var rfl) fun H5 m5=>
        rest_nil ⟨_,_,rfl,m5.ext e4 hf,(m5.o _ haf).trans gaw,(m5.o _ hdf).trans ghd,by rw [m5.g,mvUpto,hm1,map_one]; rfl⟩
    have tb:EvT (CN (n+2)) (.call "is_branch" [.var 8]) [some (.ref a),some (.ref rw),some (.ref kp),some (.ref p),some (.ref aw),some (.ref hd),some (.ref f),some (.int k),some (rowV R[k])] H' (isBr R[k]):=evt_call (evs_cons (ev_var rfl) evs_nil) (fun uu q=>is_branch_spec q) rfl
    rcases hB:isBr R[k] with uu | uu <;> rw [hB] at tb
    · rw [mvR_base hB] at fin
      exact r_ifF CN_Mono (evt_and (evt_f tb)) (r_ifF CN_Mono (evt_cmp (op:=.isin) (ev_var rfl) (ev_var rfl) ((in_di ghd).trans rfl)) fin)
    · rcases hrk:R[k] with uu | uu | uu | ⟨c,off⟩ | uu | uu <;> try exact absurd ((congrArg isBr hrk).symm.trans hB) nFT
      rw [hrk] at tb hr fin
      have htt:=ht k c off hr
      refine r_ifT CN_Mono (evt_and (evt_t tb (evt_t (evt_cmp (op:=.notin) (c:=true) (ev_var rfl) (ev_var rfl) (by rw [cm_notin,in_di gaw]; rfl)) (evt_t ?_ evt_nil)))) (r_assign (ev_call (evs_cons (ev_var rfl) (evs_cons (ev_var rfl) (evs_cons (ev_var rfl) evs_nil))) (moved_row_spec (e4 _ _ hp) (Nat.succ_le_of_lt (c40 hl (by decide))) (Nat.lt_succ_of_lt hk) htt.1 (Int.lt_add_one_of_le htt.2))) fin)
      have:=evt_ch (p:=.le) (q:=.le) (C:=CN (n+2)) (ρ:=[some (.ref a),some (.ref rw),some (.ref kp),some (.ref p),some (.ref aw),some (.ref hd),some (.ref f),some (.int k),some (rowV (.br c off))]) (H:=H') (a:=.int 0) (b:=.call "target_of" [.var 8,.var 7]) (c:=.bi "len" [.var 1]) (d:=decide (0<=(k:Int)+1+off)) (e:=decide ((k:Int)+1+off<=R.length)) ev_int (target_at rfl rfl) rfl (len_at rfl (e4 _ _ hR) hl) rfl
      rwa [decide_eq_true htt.1,decide_eq_true htt.2] at this
  · rw [hc] at hm1
    exact rest_nil ⟨_,_,rfl,e4,gaw,ghd,by rw [g4,mvUpto,hm1]; exact congrArg (fun l=>some (AO.list (l.map rowV))) (List.append_nil _).symm⟩
theorem moved_rows_spec {n:Nat} {H:AH} {Q:V->AH->Prop} {a rw kp p:Nat} {A:Adr} {o:Ob} {R:List Row} {K:List Bool} (hO:ObjAt H a A o) (hR:H rw=some (.list (R.map rowV))) (hK:H kp=some (.list (K.map V.bool)))
    (hp:H p=some (.list (natL (places K (R.length+1))))) (hl:R.length<=40) (hkl:K.length=R.length) (ht:∀ (i:Nat) c off,R[i]? = some (.br c off)->0<=(i:Int)+1+off/\(i:Int)+1+off<=R.length)
    (q:∀ f H',Made H f (.list ((mvUpto K R R.length).map rowV)) H'->Q (.ref f) H'):CN (n+3) "moved_rows" [.ref a,.ref rw,.ref kp,.ref p] H Q:=by
  refine call_of rfl rfl (r_assignW CN_Mono (w_call (evs_cons (ev_var rfl) evs_nil) (imported_spec hO fun aw H1 M1=>r_assignW CN_Mono (w_call (evs_cons (ev_var rfl) evs_nil) (own_spec (hO.ext M1.e) fun hd H2 M2=>r_new (evn_list evs_nil) fun f H3 N=>?_)))))
  have E3:=M1.e.trans (M2.e.trans N.e)
  have gaw:=M2.e _ _ M1.g
  have hfH:=(M1.e.trans M2.e).none N.n
  refine r_for CN_Mono (ev_bi (evs_cons (len_at rfl (E3 _ _ hR) hl) evs_nil) (range1 (c40' hl (by decide)))) keys_rng iter_rng (MvI H a rw kp p aw hd f R K) (fun uu uu uu uu=>still_rng) (fun k x ρ H' hx h=>moved_turn hR hK hp hl hkl ht hfH (ne_of_none gaw N.n) (ne_of_none M2.g N.n) hx h) ⟨_,_,rfl,E3,N.e _ _ gaw,N.e _ _ M2.g,N.g⟩ ?_
  rintro ρ H' ⟨x7,x8,rfl,e4,uu,uu,g4⟩
  rw [rngL_len] at g4
  exact r_ret (ev_var rfl) (q f H' ⟨hfH,e4,g4⟩)
theorem moved_maps_spec {n:Nat} {H:AH} {Q:V->AH->Prop} {a:Nat} {A:Adr} {o:Ob} {x y:V} (hO:ObjAt H a A o) (q:∀ f H',Made H f (.di false []) H'->Q (.ref f) H'):CN (n+1) "moved_maps" [.ref a,x,y] H Q :=
  call_of rfl rfl (r_new evn_dict0 fun f H1 N=>r_for0 (evn_bi (evs_cons ((hO.ext N.e).ev rfl rfl) evs_nil) (sorted_di (hO.ext N.e).hm (by decide))) fun s H2 N2=>r_ret (ev_var rfl) (q f H2 ⟨N.n,N.e.trans N2.e,N2.e _ _ N.g⟩))
end Mine.Wk
end
section
namespace Mine.Wk
open PySem
theorem list_list {H:AH} {a:Nat} {xs:List V} (h:H a=some (.list xs)) (hl:xs.length<=1000):biF "list" [.ref a] H=some (.new (.list xs)):=by
  show (listAt H a).bind _=_
  exact bind_of (listAt_of h) (if_pos hl)
theorem dict_di {H:AH} {a:Nat} {fz:Bool} {xs:List (Int × V)} (h:H a=some (.di fz xs)) (hl:xs.length<=10000):biF "dict" [.ref a] H=some (.new (.di false xs)):=by
  show dictO (H a)=_
  exact (congrArg dictO h).trans (if_pos hl)
theorem dict_ds {H:AH} {a:Nat} {fz:Bool} {xs:List (String × V)} (h:H a=some (.ds fz xs)) (hl:xs.length<=10000):biF "dict" [.ref a] H=some (.new (.ds false xs)):=by
  show dictO (H a)=_
  exact (congrArg dictO h).trans (if_pos hl)
structure Fa (H0 H:AH) (L:List (Nat × AO)):Prop where
  e:Ext H0 H
  f:∀ p ∈ L,H p.1=some p.2
  nd:(L.map (·.1)).Nodup
  fr:∀ p ∈ L,H0 p.1=Option.none
theorem Fa.new {H0 H H':AH} {L:List (Nat × AO)} {z:Nat} {o:AO} (h:Fa H0 H L) (N:Made H z o H'):Fa H0 H' ((z,o)::L) where
  e:=h.e.trans N.e
  f:=List.forall_mem_cons.mpr ⟨N.g,fun p hp=>N.e _ _ (h.f p hp)⟩
  nd:=List.nodup_cons.mpr ⟨fun hm=>by
    obtain ⟨p,hp,hz⟩:=List.mem_map.mp hm
    exact ne_of_none (h.f p hp) N.n hz,h.nd⟩
  fr:=List.forall_mem_cons.mpr ⟨h.e.none N.n,h.fr⟩
theorem Fa.ext {H0 H H':AH} {L:List (Nat × AO)} (h:Fa H0 H L) (e:Ext H H'):Fa H0 H' L:=⟨h.e.trans e,fun p hp=>e _ _ (h.f p hp),h.nd,h.fr⟩
theorem Fa.chg {H0 H H':AH} {y:Nat} {o o':AO} (k:∀ b v,b ≠ y->H b=some v->H' b=some v) (g:H' y=some o'):∀ (L1:List (Nat × AO)) {L2:List (Nat × AO)},Fa H0 H (L1 ++ (y,o)::L2)->Fa H0 H' (L1 ++ (y,o')::L2):=by
  intro L1 L2 h
  have hn:∀ p,p ∈ L1 \/ p ∈ L2->p.1 ≠ y:=fun p hp e=>by
    have hnd:=h.nd
    rw [List.map_append,List.map_cons] at hnd
    obtain ⟨n1,n2,n3⟩:=List.nodup_append.mp hnd
    exact hp.elim (fun hp=>n3 _ (List.mem_map_of_mem hp) _ (.head _) e) fun hp=>(List.nodup_cons.mp n2).1 (e ▸ List.mem_map_of_mem (f:=(·.1)) hp)
  have up:∀ {P:Nat × AO->Prop},(∀ p,p ∈ L1 \/ p ∈ L2->P p)->P (y,o')->∀ p ∈ L1 ++ (y,o')::L2,P p:=fun h1 h2 p hp=>
    (List.mem_append.mp hp).elim (fun hp=>h1 p (.inl hp)) fun hp=>(List.mem_cons.mp hp).elim (fun e=>e ▸ h2) fun hp=>h1 p (.inr hp)
  have old:∀ p,p ∈ L1 \/ p ∈ L2->p ∈ L1 ++ (y,o)::L2:=fun p hp=>hp.elim (List.mem_append_left _) fun hp=>List.mem_append_right _ (.tail _ hp)
  have my:(y,o) ∈ L1 ++ (y,o)::L2:=List.mem_append_right _ (.head _)
  refine ⟨fun b v hb=>k b v (ne_of_none hb (h.fr (y,o) my)) (h.e _ _ hb),up (fun p hp=>k _ _ (hn p hp) (h.f p (old p hp))) g,?_,up (fun p hp=>h.fr p (old p hp)) (h.fr (y,o) my)⟩
  have hnd:=h.nd
  rw [List.map_append] at hnd ⊢
  exact hnd
theorem Fa.mut {H0 H H':AH} {y:Nat} {o o':AO} (m:Mut H y o' H') (L1:List (Nat × AO)) {L2:List (Nat × AO)} (h:Fa H0 H (L1 ++ (y,o)::L2)):Fa H0 H' (L1 ++ (y,o')::L2):=Fa.chg (fun b uu hb hv=>(m.o b hb).trans hv) m.g L1 h
theorem Fa.at {H0 H:AH} {L:List (Nat × AO)} (h:Fa H0 H L) {i y:Nat} {o:AO} (e:L[i]? = some (y,o)):H y=some o:=h.f _ (List.mem_of_getElem? e)
theorem Fa.get {H0 H:AH} {L:List (Nat × AO)} (h:Fa H0 H L) {y:Nat} {o:AO} (hm:(y,o) ∈ L):H y=some o:=h.f _ hm
theorem Fa.perm {H0 H:AH} {L L':List (Nat × AO)} (h:Fa H0 H L) (p:L.Perm L'):Fa H0 H L':=⟨h.e,fun x hx=>h.f x (p.mem_iff.mpr hx),(p.map (·.1)).nodup_iff.mp h.nd,fun x hx=>h.fr x (p.mem_iff.mpr hx)⟩
theorem Fa.turn {H0 H:AH} {L:List (Nat × AO)} {p q r:Nat × AO} (h:Fa H0 H (p::q::r::L)):Fa H0 H (q::r::p::L):=h.perm (.trans (.swap ..) (.cons _ (.swap ..)))
theorem setattr_eq {H:AH} {a dx:Nat} {kvs:List (String × V)} {x:String} {v:V} (h:H a=some (.inst dx)) (h2:H dx=some (.ns kvs)):setAttrF (.ref a) x v H=some (H.set dx (.ns (dset kvs x v))):=bind_of (fldAt_of h h2) rfl
section
variable {C:Cl} {Q:PO} {ss:List MS} {ρ:Env} {H0 H:AH} {a dx j:Nat} {kvs:List (String × V)} {L:List (Nat × AO)} {x:String} {v:V} {e:ME} {ob:AO}
theorem Fa.setA (fa:Fa H0 H ((dx,.ns kvs)::(a,.inst dx)::L)):setAttrF (.ref a) x v H=some (H.set dx (.ns (dset kvs x v))):=setattr_eq (fa.get (.tail _ (.head _))) (fa.get (.head _))
theorem Fa.attr (fa:Fa H0 H ((dx,.ns kvs)::(a,.inst dx)::L)) (h:dget kvs x=some v):attrF (.ref a) x H=some v:=bind_of (fldAt_of (fa.get (.tail _ (.head _))) (fa.get (.head _))) h
theorem r_setVal (fa:Fa H0 H ((dx,.ns kvs)::(a,.inst dx)::L)) (he:Ev C e ρ H v) (ho:getV ρ j=some (.ref a)) (k:∀ H',Fa H0 H' ((dx,.ns (dset kvs x v))::(a,.inst dx)::L)->rest C ss Q ρ H'):rest C (.setAttr (.var j) x e::ss) Q ρ H :=
  r_setAttr he (ev_var ho) fa.setA (k _ (Fa.mut .mk' [] fa))
inductive MadeV (H:AH) (ob:AO) (K:Nat->AH->Prop) (v:V) (H':AH):Prop
  | mk (z:Nat) (e:v = .ref z) (m:Made H z ob H') (k:K z H')
theorem r_setW (hC:Mono C) (fa:Fa H0 H ((dx,.ns kvs)::(a,.inst dx)::L)) (ho:getV ρ j=some (.ref a)) (h:wpE C e ρ H (MadeV H ob fun z uu=>∀ H',Fa H0 H' ((dx,.ns (dset kvs x (.ref z)))::(a,.inst dx)::(z,ob)::L)->rest C ss Q ρ H')):rest C (.setAttr (.var j) x e::ss) Q ρ H :=
  ⟨wpE_mono hC e _ _ _ _ (fun v H' z=>by
    obtain ⟨z,rfl,m,k⟩:=z
    have fa2:=(fa.new m).turn
    exact ev_var ho _ (iH fa2.setA (k _ (Fa.mut .mk' [] fa2)).w)) h⟩
theorem r_setNew (fa:Fa H0 H ((dx,.ns kvs)::(a,.inst dx)::L)) (he:EvN C e ρ H ob) (ho:getV ρ j=some (.ref a)) (k:∀ z H',Fa H0 H' ((dx,.ns (dset kvs x (.ref z)))::(a,.inst dx)::(z,ob)::L)->rest C ss Q ρ H'):rest C (.setAttr (.var j) x e::ss) Q ρ H :=
  ⟨he _ fun z hz=>by
    have fa2:=(fa.new ((New.mk' (ob:=ob) hz).made .rfl)).turn
    exact ev_var ho _ (iH fa2.setA (k z _ (Fa.mut .mk' [] fa2)).w)⟩
end
noncomputable abbrev initL (A:Adr) (L:List (Nat × AO)):List (Nat × AO):=(A.cms,.di false [])::(A.mps,.di false [])::(A.pts,.list [])::(A.ens,.list [])::(A.fxs,.list [])::(A.dfx,.list [])::(A.wds,.list [])::(A.rws,.list [])::(A.ims,.list [])::L
theorem init_spec {n:Nat} {H0 H:AH} {Q:V->AH->Prop} {a dx:Nat} {L:List (Nat × AO)} (fa:Fa H0 H ((dx,.ns [])::(a,.inst dx)::L))
    (q:∀ (A:Adr) H',A.dx=dx->Fa H0 H' ((dx,.ns (nsOf A 0 0))::(a,.inst dx)::initL A L)->Q .none H'):CN (n+1) "__init__" [.ref a,.str "M",.int 5] H Q :=
  call_of rfl rfl (r_setVal fa (ev_var rfl) rfl fun H1 fa=>r_setVal fa (ev_var rfl) rfl fun H2 fa=>r_setNew fa (evn_list evs_nil) rfl fun ims H3 fa=>r_setNew fa (evn_list evs_nil) rfl fun rws H4 fa=>r_setVal fa ev_int rfl fun H5 fa=>
    r_setNew fa (evn_list evs_nil) rfl fun wds H6 fa=>r_setNew fa (evn_list evs_nil) rfl fun dfx H7 fa=>r_setNew fa (evn_list evs_nil) rfl fun fxs H8 fa=>r_setNew fa (evn_list evs_nil) rfl fun ens H9 fa=>r_setNew fa (evn_list evs_nil) rfl fun pts H10 fa=>
    r_setNew fa evn_dict0 rfl fun mps H11 fa=>r_setNew fa evn_dict0 rfl fun cms H12 fa=>r_setVal fa ev_int rfl fun H13 fa=>rest_nil (q ⟨dx,ims,rws,wds,dfx,fxs,ens,pts,mps,cms⟩ H13 rfl fa))
theorem new_specL {n:Nat} {H0 H:AH} {L:List (Nat × AO)} (f:Fa H0 H L) {K:V->AH->Prop} (q:∀ (a:Nat) (A:Adr) H',Fa H0 H' ((A.dx,.ns (nsOf A 0 0))::(a,.inst A.dx)::initL A L)->K (.ref a) H') {ρ:Env} {es:List ME} (he:Evs (CN (n+1)) es ρ H [.str "M",.int 5]):wpE (CN (n+1)) (.new es) ρ H K :=
  he _ fun dx a hdx ha hne=>init_spec (((f.new ((New.mk' hdx).made .rfl)).new ((New.mk' ((set_other hne).trans ha)).made .rfl)).perm (.swap ..)) fun A H' hA fa=>by
    subst hA
    exact q a A H' fa
theorem new_spec {n:Nat} {H:AH} {K:V->AH->Prop} (q:∀ (a:Nat) (A:Adr) H',Fa H H' ((A.dx,.ns (nsOf A 0 0))::(a,.inst A.dx)::initL A [])->K (.ref a) H') {ρ:Env} {es:List ME} (he:Evs (CN (n+1)) es ρ H [.str "M",.int 5]):wpE (CN (n+1)) (.new es) ρ H K:=new_specL (L:=[]) ⟨.rfl,List.forall_mem_nil _,.nil,List.forall_mem_nil _⟩ q he
end Mine.Wk
end
section
namespace Mine.Wk
open PySem
section
variable {C:Cl} {Q:PO} {ss b:List MS} {ρ:Env} {H:AH} {it:ME} {x v:V} {tg:Tgt} {i:Nat}
theorem r_forK1 (hC:Mono C) (h:Ev C it ρ H x) (hk:keysF x H=some [v]) (k:rest C b (Body (fun ρ₁ H₂=>rest C ss Q ρ₁ (thaw x H H₂)) fun o ρ₁ H₂=>Q o ρ₁ (thaw x H H₂)) (setV ρ i v) (freeze x H)):rest C (.for_ (.one i) it b::ss) Q ρ H :=
  ⟨h _ (by rw [hk]; exact ⟨trivial,wpSs_mono hC b _ _ _ _ (fun o ρ₁ H₁ z=>by
    rcases o with uu | v
    · exact ⟨trivial,(show rest C ss Q ρ₁ (thaw x H H₁) from z).w⟩
    · exact z) k.w⟩)⟩
theorem r_forK0 (h:Ev C it ρ H x) (hk:keysF x H=some []) (k:rest C ss Q ρ (thaw x H (freeze x H))):rest C (.for_ tg it b::ss) Q ρ H:=⟨h _ (by rw [hk]; exact ⟨trivial,k.w⟩)⟩
inductive ForL (C:Cl) (tg:Tgt) (b ss:List MS) (Q:PO) (ρ:Env) (x:V) (H:AH):Prop
  | mk (a:Nat) (xs:List V) (e:x = .ref a) (g:H a=some (.list xs)) (I:Nat->Env->AH->Prop) (hs:∀ i ρ H,I i ρ H->H a=some (.list xs)) (hb:∀ i v ρ H,xs[i]? = some v->I i ρ H->Turn C tg v b (Body (I (i+1)) Q) ρ H) (h0:I 0 ρ H) (he:∀ ρ H,I xs.length ρ H->rest C ss Q ρ H)
theorem r_forW (hC:Mono C) (h:wpE C it ρ H (ForL C tg b ss Q ρ)):rest C (.for_ tg it b::ss) Q ρ H :=
  ⟨wpE_mono hC it _ _ _ _ (fun x H₁ z=>by
    obtain ⟨a,xs,rfl,g,I,hs,hb,h0,he⟩:=z
    rw [keys_list g]
    exact iL (iter_list g) (for_turn hC I (fun i ρ H h=>still_list (hs i ρ H h)) (fun i v ρ H hx hI=>by
      obtain ⟨ρ',e,r⟩:=hb i v ρ H hx hI
      exact ⟨ρ',e,⟨wpSs_mono hC b _ _ _ _ (fun o ρ₁ H₁ z=>by rcases o with uu | uu <;> exact z) r.w⟩⟩) (fun ρ H hI=>(he ρ H hI).w) h0)) h⟩
theorem w_bi1 (hC:Mono C) {f:String} {K:V->AH->Prop} (h:wpE C it ρ H fun w H'=>∃ r,biF f [w] H'=some r/\retR r H' K):wpE C (.bi f [it]) ρ H K:=wpE_mono hC it _ _ _ _ (fun w H' z=>z.elim fun r z=>iR z.1 z.2) h
theorem w_call2 {f:String} {e1 e2:ME} {K:V->AH->Prop} (h1:Ev C e1 ρ H v) (h2:wpE C e2 ρ H fun w H'=>C f [v,w] H' K):wpE C (.call f [e1,e2]) ρ H K:=h1 _ h2
end
theorem ext_same {H H1 H2:AH} {f:Nat} (e:Ext H H1) (hf:H f=none) (h:∀ b,b ≠ f->H2 b=H1 b):Ext H H2:=fun b o hb=>(h b (ne_of_none hb hf)).trans (e _ _ hb)
theorem thaw_same {H H':AH} {c:Nat} {o:AO} (g:H c=some o) (ht:∀ H',thaw (.ref c) H H'=H'.set c o) (h:∀ b,b ≠ c->H' b=H b) (b:Nat):thaw (.ref c) H H' b=H b:=by
  rw [ht]
  by_cases hb:b=c
  · rw [hb,set_same,g]
  · rw [set_other hb,h b hb]
theorem fr_of {H:AH} {c:Nat} {o:AO} (h:H c=some o):freeze (.ref c) H=freezeO H c (some o):=congrArg (freezeO H c) h
theorem th_of {H:AH} {c:Nat} {o:AO} (h:H c=some o) (H':AH):thaw (.ref c) H H'=thawO H' c (some o):=congrArg (thawO H' c) h
structure StR (o:Ob) (S:List Int):Prop where
  r:∀ x ∈ S,0<=x/\x<(o.rows.length:Int)
  b:(o.body:Int) ∈ S
  g:(o.go:Int) ∈ S
  e:∀ e ∈ o.ent,(e:Int) ∈ S
  l:S.length<=40
inductive StI (H:AH) (a f:Nat) (o:Ob) (k:Nat) (ρ:Env) (H':AH):Prop
  | mk (x2 x3:Option V) (D:List (Int × V)) (hρ:ρ = [some (.ref a),some (.ref f),x2,x3,none,none,none]) (e:Ext H H') (g:H' f=some (.di false D)) (hk:Keys D o.rows.length) (hb:(o.body:Int) ∈ keys D) (h:∀ j<k,∀ x,o.ent[j]? = some x->(x:Int) ∈ keys D)
theorem start_turn {n:Nat} {H:AH} {a f k:Nat} {o:Ob} {x:V} {ρ:Env} {H':AH} {Q:PO} (w:WF o) (hf:H f=none) (hx:(o.ent.map entV ++ [datV])[k]? = some x) (h:StI H a f o k ρ H'):Turn (CN n) (.many [2,3]) x f_start_rows_l0 (Body (StI H a f o (k+1)) Q) ρ H':=by
  obtain ⟨x2,x3,D,rfl,e4,g4,hk,hbD,hin⟩:=h
  rcases Nat.lt_trichotomy k (o.ent.map entV).length with hkl | hkl | hkl
  · rw [List.getElem?_append_left hkl] at hx
    refine map_get hx fun y hy hv=>?_
    subst hv
    refine ⟨_,rfl,r_ifT CN_Mono (nm_t rfl rfl) (r_storeDi ev_bool (ev_var rfl) (ev_var rfl) g4 (c40' (Nat.le_trans hk.len w.len) (by decide)) fun H5 m5=>rest_nil ⟨_,_,_,rfl,m5.ext e4 hf,m5.g,hk.set (Int.natCast_nonneg y) (Int.ofNat_lt.mpr (w.ent y (List.mem_of_getElem? hy))),dset_keys.mpr (.inl hbD),fun j hj z hz=>lt_succ_cases hj (fun h=>dset_keys.mpr (.inl (hin j h z hz))) fun h=>?_⟩)⟩
    subst h
    obtain rfl:=Option.some.inj (hy.symm.trans hz)
    exact dset_keys.mpr (.inr rfl)
  · subst hkl
    rw [List.getElem?_concat_length] at hx
    obtain rfl:=Option.some.inj hx
    refine ⟨_,rfl,r_ifF CN_Mono (nm_t rfl rfl) (rest_nil ⟨_,_,_,rfl,e4,g4,hk,hbD,fun j hj z hz=>hin j ?_ z hz⟩)⟩
    rw [List.length_map]; exact (List.getElem?_eq_some_iff.mp hz).1
  · rw [List.getElem?_eq_none (by rw [List.length_append]; exact hkl)] at hx; exact nomatch hx
theorem start_spec {n:Nat} {H:AH} {Q:V->AH->Prop} {a:Nat} {A:Adr} {o:Ob} (hO:ObjAt H a A o) (w:WF o) (q:∀ s H' (S:List Int),Made H s (.list (S.map V.int)) H'->StR o S->Q (.ref s) H'):CN (n+3) "start_rows" [.ref a] H Q:=by
  refine call_of rfl rfl (r_assignW CN_Mono (w_bi1 CN_Mono (w_call (evs_cons (ev_var rfl) evs_nil) (table_spec hO fun t H1 M1=>⟨_,dict_di M1.g (Nat.zero_le _),fun f hf1=>?_⟩))))
  have N2:New H1 f (.di false []) (H1.set f (.di false [])):=.mk' hf1
  have hf:=M1.e.none hf1
  have E2:=M1.e.trans N2.e
  refine r_storeDi ev_bool (ev_var rfl) ((hO.ext E2).ev rfl rfl) N2.g (Nat.zero_le _) fun H3 m3=>?_
  have e3:=m3.ext E2 hf
  have h3:=hO.ext e3
  refine r_for CN_Mono (h3.ev rfl rfl) (keys_list h3.he) (iter_list h3.he) (StI H a f o) ?_ (fun k x ρ H' hx h=>start_turn w hf hx h) ⟨_,_,_,rfl,e3,m3.g,Keys.nil.set (Int.natCast_nonneg _) (Int.ofNat_lt.mpr w.body),dset_keys.mpr (.inr rfl),fun j h=>nomatch h⟩ ?_
  · rintro k ρ H' ⟨uu,uu,uu,uu,e4,uu⟩
    exact still_list (hO.ext e4).he
  rintro ρ H4 ⟨x2,x3,D,rfl,e4,g4,hk,hbD,hin⟩
  have hin:∀ e ∈ o.ent,(e:Int) ∈ keys D:=fun e he=>by
    obtain ⟨j,hj⟩:=List.getElem?_of_mem he
    exact hin j (by rw [List.length_append,List.length_map]; exact Nat.lt_succ_of_lt (List.getElem?_eq_some_iff.mp hj).1) e hj
  have h4:=hO.ext e4
  have hc4:=h4.hc
  have hcf:A.cms ≠ f:=ne_of_none hO.hc hf
  have hac:a ≠ A.cms:=fun e=>nomatch (e ▸ hO.hi).symm.trans hO.hc
  have hdc:A.dx ≠ A.cms:=fun e=>nomatch (e ▸ hO.hn).symm.trans hO.hc
  have hfz:freeze (.ref A.cms) H4=H4.set A.cms (.ds true [("Go",.int o.go)]):=fr_of hc4
  have hkey:keysF (.ref A.cms) H4=some [.str "Go"]:=congrArg keysO hc4
  have hattr:attrF (.ref a) "commands" (H4.set A.cms (.ds true [("Go",.int o.go)]))=some (.ref A.cms):=bind_of (fldAt_of ((set_other hac).trans h4.hi) ((set_other hdc).trans h4.hn)) rfl
  refine r_forK1 CN_Mono (h4.ev rfl rfl) hkey ?_
  rw [hfz]
  refine r_storeDi ev_bool (ev_var rfl) (ev_sub (ev_attr (ev_var rfl) hattr) (ev_var rfl) (sub_ds set_same)) ((set_other hcf.symm).trans g4) (c40' (Nat.le_trans hk.len w.len) (by decide)) fun H5' m5=>rest_nil ?_
  have o5:∀ b,b ≠ f->thaw (.ref A.cms) H4 H5' b=H4 b:=fun b hb=>by
    rw [th_of hc4]
    by_cases hbc:b=A.cms
    · rw [hbc]; exact set_same.trans hc4.symm
    · exact (set_other hbc).trans ((m5.o b hb).trans (set_other hbc))
  have g5:thaw (.ref A.cms) H4 H5' f=some (.di false (dset D o.go (.bool true))):=by
    rw [th_of hc4]; exact (set_other hcf.symm).trans m5.g
  show rest _ _ _ _ (thaw (.ref A.cms) H4 H5')
  revert g5 o5
  generalize thaw (.ref A.cms) H4 H5'=H5
  intro o5 g5
  have e5:=ext_same e4 hf o5
  refine r_assignW CN_Mono (w_call (evs_cons (ev_var rfl) evs_nil) (own_spec (hO.ext e5) fun hd H6 M6=>r_forK0 (ev_var rfl) (congrArg keysO M6.g) ?_))
  have o7:∀ b,thaw (.ref hd) H6 (freeze (.ref hd) H6) b=H6 b:=fun b=>by
    rw [th_of M6.g,fr_of M6.g]
    by_cases hbc:b=hd
    · rw [hbc]; exact set_same.trans M6.g.symm
    · exact (set_other hbc).trans (set_other hbc)
  revert o7
  generalize thaw (.ref hd) H6 (freeze (.ref hd) H6)=H7
  intro o7
  have e7:Ext H H7:=fun b v hb=>(o7 b).trans (M6.e _ _ (e5 _ _ hb))
  have hk7:Keys (dset D (o.go:Int) (.bool true)) o.rows.length:=hk.set (Int.natCast_nonneg _) (Int.ofNat_lt.mpr w.go)
  have hl7:=Nat.le_trans hk7.len w.len
  refine r_retN (evn_bi (evs_cons (ev_var rfl) evs_nil) (sorted_di ((o7 f).trans (M6.e _ _ g5)) (c40 hl7 (by decide)))) fun s H8 N8=>q s H8 _ (N8.made e7)
    ⟨fun x hx=>hk7.rng x (mem_sortI.mp hx),mem_sortI.mpr (dset_keys.mpr (.inl hbD)),mem_sortI.mpr (dset_keys.mpr (.inr rfl)),fun e he=>mem_sortI.mpr (dset_keys.mpr (.inl (hin e he))),by rw [len_sortI,List.length_map]; exact hl7⟩
structure EnR (o:Ob) (D:List (Int × V)):Prop where
  b:(o.body:Int) ∈ keys D
  g:(o.go:Int) ∈ keys D
  e:∀ e ∈ o.ent,(e:Int) ∈ keys D
  t:∀ (i:Nat) c off,o.rows[i]? = some (.br c off)->c ≠ .NV->(i:Int)+1+off ∈ keys D
inductive EnI (H:AH) (a f t:Nat) (n:Nat) (K:List Int) (k:Nat) (ρ:Env) (H':AH):Prop
  | mk (x2:Option V) (D:List (Int × V)) (hρ:ρ = [some (.ref a),some (.ref f),x2]) (e:Ext H H') (gt:H' t=some (.list (K.map V.int))) (g:H' f=some (.di false D)) (hk:Keys D n) (h:∀ j<k,∀ x,K[j]? = some x->x ∈ keys D)
theorem entered_spec {n:Nat} {H:AH} {Q:V->AH->Prop} {a:Nat} {A:Adr} {o:Ob} (hO:ObjAt H a A o) (w:WF o) (q:∀ f H' D,Made H f (.di false D) H'->EnR o D->Q (.ref f) H'):CN (n+4) "entered_rows" [.ref a] H Q:=by
  refine call_of rfl rfl (r_new evn_dict0 fun f H1 N=>r_forW CN_Mono (w_call2 ((hO.ext N.e).ev rfl rfl) (w_call (evs_cons (ev_var rfl) evs_nil) (start_spec (hO.ext N.e) w fun s H2 S M2 S2=>targets_spec ((hO.ext (N.e.trans M2.e)).hr) M2.g w.len S2.r fun t H3 K M3 T3=>?_))))
  have E3:=N.e.trans (M2.e.trans M3.e)
  have g3:=M3.e _ _ (M2.e _ _ N.g)
  have htf:t ≠ f:=(ne_of_none (M2.e _ _ N.g) M3.n).symm
  refine ⟨t,_,rfl,M3.g,EnI H a f t o.rows.length K,?_,?_,⟨_,[],rfl,E3,M3.g,g3,Keys.nil,fun j h=>nomatch h⟩,?_⟩
  · rintro k ρ H' ⟨uu,uu,uu,uu,gt,uu⟩
    exact gt
  · rintro k x ρ H' hx ⟨x2,D,rfl,e4,gt,g4,hk,hin⟩
    refine map_get hx fun y hy hv=>?_
    subst hv
    have hyr:=T3.r y (List.mem_of_getElem? hy)
    refine ⟨_,rfl,r_storeDi ev_bool (ev_var rfl) (ev_var rfl) g4 (c40' (Nat.le_trans hk.len w.len) (by decide)) fun H5 m5=>rest_nil ⟨_,_,rfl,m5.ext e4 N.n,(m5.o _ htf).trans gt,m5.g,hk.set hyr.1 hyr.2,fun j hj z hz=>lt_succ_cases hj (fun h=>dset_keys.mpr (.inl (hin j h z hz))) fun h=>?_⟩⟩
    subst h
    exact dset_keys.mpr (.inr (Option.some.inj (hz.symm.trans hy)))
  · rintro ρ H' ⟨x2,D,rfl,e4,gt,g4,hk,hin⟩
    rw [List.length_map] at hin
    have hin:∀ x ∈ K,x ∈ keys D:=fun x hx=>by
      obtain ⟨j,hj⟩:=List.getElem?_of_mem hx
      exact hin j (List.getElem?_eq_some_iff.mp hj).1 x hj
    exact r_ret (ev_var rfl) (q f H' D ⟨N.n,e4,g4⟩ ⟨hin _ (T3.e _ S2.b),hin _ (T3.e _ S2.g),fun e he=>hin _ (T3.e _ (S2.e e he)),fun i c off hi hc=>hin _ (T3.b i c off hi hc (w.tgt i c off hi).1 ((w.tgt i c off hi).2.2 hc))⟩)
end Mine.Wk
end
section
namespace Mine.Wk
open PySem
noncomputable def fixK (o:Ob) (K:List Bool) (k:Nat):List Nat:=((o.fix.take k).filter fun i=>K.getD i false).map (cnt K)
noncomputable def remapO (o:Ob) (R:List Row) (K:List Bool):Ob:=⟨mvUpto K R R.length,(o.fix.filter fun i=>K.getD i false).map (cnt K),o.ent.map (cnt K),cnt K o.go,cnt K o.body⟩
theorem fixK_succ {o:Ob} {K:List Bool} {k y:Nat} {b:Bool} (h:o.fix[k]? = some y) (hb:K[y]? = some b):fixK o K (k+1)=fixK o K k ++ bif b then [cnt K y] else []:=by
  unfold fixK
  rw [List.take_add_one,h,List.filter_append,List.map_append]
  congr 1
  show (List.filter (fun i=>K.getD i false) [y]).map (cnt K)=_
  rw [List.filter_cons,List.getD_eq_getElem?_getD,hb]
  rcases b with uu | uu <;> rfl
theorem fixK_len {o:Ob} {K:List Bool} {k:Nat} (w:WF o):(fixK o K k).length<=40:=by
  unfold fixK
  rw [List.length_map]
  exact Nat.le_trans (List.length_filter_le _ _) (Nat.le_trans (by rw [List.length_take]; exact Nat.min_le_right _ _) w.fixl)
theorem store_first {H:AH} {c:Nat} {x:String} {v:V} (h:H c=some (.di false [])):storeF (.ref c) (.str x) v H=some (H.set c (.ds false [(x,v)])):=by
  show storeS H c x v (H c)=_
  rw [h]; rfl
structure RmC (H1:AH) (a kp p:Nat) (A:Adr) (o:Ob) (R:List Row) (K:List Bool):Prop where
  ob:ObjAt H1 a A o
  w:WF o
  k:H1 kp=some (.list (K.map V.bool))
  p:H1 p=some (.list (natL (places K (R.length+1))))
  l:R.length=o.rows.length
  kl:K.length=R.length
section
variable {n:Nat} {H1:AH} {a rw kp p a' dx y:Nat} {A:Adr} {o:Ob} {R:List Row} {K:List Bool} {kvs:List (String × V)} {P S:List (Nat × AO)} {Q:PO} {ss:List MS}
theorem RmC.lt {H1:AH} (c:RmC H1 a kp p A o R K) {i:Nat} (h:i<o.rows.length):i<R.length+1:=Nat.lt_succ_of_lt (c.l ▸ h)
theorem RmC.m (c:RmC H1 a kp p A o R K):R.length+1<=100:=Nat.succ_le_succ (Nat.le_trans (c.l ▸ c.w.len:R.length<=40) (by decide))
theorem RmC.place {H:AH} (c:RmC H1 a kp p A o R K) (e:Ext H1 H) {i:Nat} (h:i<o.rows.length):subF (.ref p) (.int i) H=some (.int ((cnt K i:Nat):Int)):=sub_place (e _ _ c.p) c.m (c.lt h)
noncomputable def envR (a rw kp p a':Nat) (x5 x6 x7 x8 x9 x10:Option V):Env:=[some (.ref a),some (.ref rw),some (.ref kp),some (.ref p),some (.ref a'),x5,x6,x7,x8,x9,x10]
inductive RfI (H1:AH) (a rw kp p a' dx fxs:Nat) (o:Ob) (K:List Bool) (kvs:List (String × V)) (P S:List (Nat × AO)) (k:Nat) (ρ:Env) (H':AH):Prop
  | mk (x5 x6 x7 x8:Option V) (hρ:ρ = envR a rw kp p a' x5 x6 x7 x8 none none) (fa:Fa H1 H' ((dx,.ns kvs)::(a',.inst dx)::P ++ (fxs,.list ((fixK o K k).map fixV))::S))
theorem remap_fix {fxs:Nat} {H:AH} (c:RmC H1 a kp p A o R K) (hk:dget kvs "fixups" = some (.ref fxs)) (fa:Fa H1 H ((dx,.ns kvs)::(a',.inst dx)::P ++ (fxs,.list [])::S))
    (k:∀ x5 x6 x7 x8 H',Fa H1 H' ((dx,.ns kvs)::(a',.inst dx)::P ++ (fxs,.list ((fixK o K o.fix.length).map fixV))::S)->rest (CN n) ss Q (envR a rw kp p a' x5 x6 x7 x8 none none) H') :
    rest (CN n) (.for_ (.many [5,6,7,8]) (.attr (.var 0) "fixups") f_remap_l0::ss) Q (envR a rw kp p a' none none none none none none) H:=by
  have h1:=c.ob.ext fa.e
  refine r_for CN_Mono (h1.ev rfl rfl) (keys_list h1.hf) (iter_list h1.hf) (RfI H1 a rw kp p a' dx fxs o K kvs P S) ?_ ?_ ⟨_,_,_,_,rfl,fa⟩ ?_
  · rintro k ρ H' ⟨uu,uu,uu,uu,uu,fa⟩
    exact still_list (c.ob.ext fa.e).hf
  · rintro k x ρ H' hx ⟨x5,x6,x7,x8,rfl,fa⟩
    refine map_get hx fun y hy hv=>?_
    subst hv
    have hyl:=c.w.fixlt (List.mem_of_getElem? hy)
    have hyK:y<K.length:=c.kl.symm ▸ c.l.symm ▸ hyl
    have hb:K[y]? = some K[y]:=List.getElem?_eq_getElem hyK
    have hs:=fixK_succ (K:=K) hy hb
    refine ⟨_,rfl,r_if CN_Mono (evt_sub (ev_var rfl) (ev_var rfl) (sub_nth (fa.e _ _ c.k) (by rw [List.getElem?_map,hb]; rfl) (Nat.lt_trans (c.lt hyl) (Nat.lt_of_le_of_lt c.m (by decide)))) rfl) (fun hc=>?_) fun hc=>?_⟩
    · rw [hc] at hs
      refine r_append (ev_attr (ev_var rfl) (Fa.attr fa hk)) (fa.get (List.mem_append_right _ (.head _))) (by rw [List.length_map]; exact c40 (fixK_len c.w) (by decide)) (ev_tup (evs_cons (ev_sub (ev_var rfl) (ev_var rfl) (c.place fa.e hyl)) (evs_cons (ev_var rfl) (evs_cons (ev_var rfl) (evs_cons (ev_var rfl) evs_nil))))) fun H5 m5=>rest_nil ⟨_,_,_,_,rfl,?_⟩
      have:=Fa.mut m5 _ fa
      rw [hs]
      rw [show (fixK o K k ++ bif true then [cnt K y] else []).map fixV=(fixK o K k).map fixV ++ [fixV (cnt K y)] from List.map_append]
      exact this
    · rw [hc] at hs
      refine rest_nil ⟨_,_,_,_,rfl,?_⟩
      rw [hs,show (fixK o K k ++ bif false then [cnt K y] else [])=fixK o K k from List.append_nil _]
      exact fa
  · rintro ρ H' ⟨x5,x6,x7,x8,rfl,fa⟩
    rw [List.length_map] at fa
    exact k _ _ _ _ H' fa
noncomputable def entK (o:Ob) (K:List Bool):List V:=(o.ent.map (cnt K)).map entV ++ [datV]
inductive ReI (H1:AH) (a rw kp p a' dx ens:Nat) (o:Ob) (K:List Bool) (kvs:List (String × V)) (P S:List (Nat × AO)) (x5 x7 x8:Option V) (k:Nat) (ρ:Env) (H':AH):Prop
  | mk (x6 x9:Option V) (hρ:ρ = envR a rw kp p a' x5 x6 x7 x8 x9 none) (fa:Fa H1 H' ((dx,.ns kvs)::(a',.inst dx)::P ++ (ens,.list ((entK o K).take k))::S))
theorem ent_len {o:Ob} {l:List V} (w:WF o) {f:Nat->V} (h:l=o.ent.map f ++ [datV]):l.length<=40:=by
  rw [h,List.length_append,List.length_map]; exact Nat.le_trans (Nat.succ_le_succ w.entl) (by decide)
theorem remap_ent {ens:Nat} {H:AH} {x5 x6 x7 x8:Option V} (c:RmC H1 a kp p A o R K) (hk:dget kvs "entries" = some (.ref ens)) (fa:Fa H1 H ((dx,.ns kvs)::(a',.inst dx)::P ++ (ens,.list [])::S))
    (k:∀ x6 x9 H',Fa H1 H' ((dx,.ns kvs)::(a',.inst dx)::P ++ (ens,.list (entK o K))::S)->rest (CN n) ss Q (envR a rw kp p a' x5 x6 x7 x8 x9 none) H') :
    rest (CN n) (.for_ (.many [6,9]) (.attr (.var 0) "entries") f_remap_l1::ss) Q (envR a rw kp p a' x5 x6 x7 x8 none none) H:=by
  have h1:=c.ob.ext fa.e
  refine r_for CN_Mono (h1.ev rfl rfl) (keys_list h1.he) (iter_list h1.he) (ReI H1 a rw kp p a' dx ens o K kvs P S x5 x7 x8) ?_ ?_ ⟨_,_,rfl,fa⟩ ?_
  · rintro k ρ H' ⟨uu,uu,uu,fa⟩
    exact still_list (c.ob.ext fa.e).he
  · rintro k x ρ H' hx ⟨y6,y9,rfl,fa⟩
    have ge:=fa.get (List.mem_append_right _ (.head _))
    have hll:((entK o K).take k).length<10000:=Nat.lt_of_le_of_lt (List.length_take_le' ..) (c40 (ent_len c.w (f:=fun i=>entV (cnt K i)) (by rw [entK,List.map_map]; rfl)) (by decide))
    have fin:∀ {v:V} {H5:AH} {y6 y9:Option V},(entK o K)[k]? = some v->Mut H' ens (.list ((entK o K).take k ++ [v])) H5->ReI H1 a rw kp p a' dx ens o K kvs P S x5 x7 x8 (k+1) (envR a rw kp p a' x5 y6 x7 x8 y9 none) H5:=fun hv m=>⟨_,_,rfl,by
      have:=Fa.mut m _ fa
      rw [List.take_add_one,hv]; exact this⟩
    rcases Nat.lt_trichotomy k (o.ent.map entV).length with hkl | hkl | hkl
    · rw [List.getElem?_append_left hkl] at hx
      refine map_get hx fun y hy hv=>?_
      subst hv
      refine ⟨_,rfl,r_append (ev_attr (ev_var rfl) (Fa.attr fa hk)) ge hll (ev_tup (evs_cons (ev_var rfl) (evs_cons (ev_iteT (nm_t rfl rfl) (ev_sub (ev_var rfl) (ev_var rfl) (c.place fa.e (c.w.ent y (List.mem_of_getElem? hy))))) evs_nil))) fun H5 m5=>rest_nil (fin ?_ m5)⟩
      rw [List.length_map] at hkl
      rw [entK,List.getElem?_append_left (by rw [List.length_map,List.length_map]; exact hkl),List.getElem?_map,List.getElem?_map,hy]; rfl
    · subst hkl
      rw [List.getElem?_concat_length] at hx
      obtain rfl:=Option.some.inj hx
      refine ⟨_,rfl,r_append (ev_attr (ev_var rfl) (Fa.attr fa hk)) ge hll (ev_tup (evs_cons (ev_var rfl) (evs_cons (ev_iteF (nm_t rfl rfl) (ev_var rfl)) evs_nil))) fun H5 m5=>rest_nil (fin ?_ m5)⟩
      have e:(o.ent.map entV).length=((o.ent.map (cnt K)).map entV).length:=by rw [List.length_map,List.length_map,List.length_map]
      rw [e]; exact List.getElem?_concat_length
    · rw [List.getElem?_eq_none (by rw [List.length_append]; exact hkl)] at hx; exact nomatch hx
  · rintro ρ H' ⟨x6,x9,rfl,fa⟩
    rw [List.take_of_length_le (by rw [entK,List.length_append,List.length_append,List.length_map,List.length_map,List.length_map]; exact Nat.le_refl _)] at fa
    exact k _ _ H' fa
theorem remap_com {cms:Nat} {H:AH} {x5 x6 x7 x8 x9:Option V} (c:RmC H1 a kp p A o R K) (hk:dget kvs "commands" = some (.ref cms)) (fa:Fa H1 H ((dx,.ns kvs)::(a',.inst dx)::P ++ (cms,.di false [])::S))
    (k:∀ x10 H',Fa H1 H' ((dx,.ns kvs)::(a',.inst dx)::P ++ (cms,.ds false [("Go",.int (cnt K o.go:Nat))])::S)->rest (CN n) ss Q (envR a rw kp p a' x5 x6 x7 x8 x9 x10) H') :
    rest (CN n) (.for_ (.one 10) (.attr (.var 0) "commands") f_remap_l2::ss) Q (envR a rw kp p a' x5 x6 x7 x8 x9 none) H:=by
  have h9:=c.ob.ext fa.e
  have hc9:=h9.hc
  have old:∀ {b:Nat} {v:AO},H b=some v->v ≠ .ds false [("Go",.int o.go)]->b ≠ A.cms:=fun g hv e=>hv (Option.some.inj (g.symm.trans (e ▸ hc9)))
  have gcm:=fa.get (y:=cms) (o:=.di false []) (List.mem_append_right _ (.head _))
  have ga':=fa.get (y:=a') (o:=.inst dx) (.tail _ (.head _))
  have gdx':=fa.get (y:=dx) (o:=.ns kvs) (.head _)
  have hcm':cms ≠ A.cms:=old gcm nofun
  have hac:a ≠ A.cms:=old h9.hi nofun
  have hdc:A.dx ≠ A.cms:=old h9.hn nofun
  have hfz:freeze (.ref A.cms) H=H.set A.cms (.ds true [("Go",.int o.go)]):=fr_of hc9
  refine r_forK1 CN_Mono (h9.ev rfl rfl) (congrArg keysO hc9) ?_
  rw [hfz]
  refine r_setSub (ev_sub (ev_var rfl) (ev_sub (ev_attr (ev_var rfl) (bind_of (fldAt_of ((set_other hac).trans h9.hi) ((set_other hdc).trans h9.hn)) rfl)) (ev_var rfl) (sub_ds set_same)) (sub_place ((set_other (old (fa.e _ _ c.p) nofun)).trans (fa.e _ _ c.p)) c.m (c.lt c.w.go)))
    (ev_attr (ev_var rfl) (bind_of (fldAt_of ((set_other (old ga' nofun)).trans ga') ((set_other (old gdx' nofun)).trans gdx')) hk)) (ev_var rfl)
    (store_first ((set_other hcm').trans gcm)) (rest_nil (k _ _ ?_))
  refine Fa.mut ⟨?_,fun b hb=>?_⟩ _ fa
  · rw [th_of hc9]; exact (set_other hcm').trans set_same
  · rw [th_of hc9]
    by_cases hbc:b=A.cms
    · rw [hbc]; exact set_same.trans hc9.symm
    · exact (set_other hbc).trans ((set_other hb).trans (set_other hbc))
end
end Mine.Wk
end
section
namespace Mine.Wk
open PySem
theorem fixK_all {o:Ob} {K:List Bool}:fixK o K o.fix.length=(o.fix.filter fun i=>K.getD i false).map (cnt K):=by unfold fixK; rw [List.take_length]
theorem remap_spec {n:Nat} {H:AH} {Q:V->AH->Prop} {a rw kp:Nat} {A:Adr} {o:Ob} {R:List Row} {K:List Bool} (hO:ObjAt H a A o) (w:WF o) (hR:H rw=some (.list (R.map rowV))) (hK:H kp=some (.list (K.map V.bool)))
    (hl:R.length=o.rows.length) (hkl:K.length=R.length) (ht:∀ (i:Nat) c off,R[i]? = some (.br c off)->0<=(i:Int)+1+off/\(i:Int)+1+off<=R.length)
    (q:∀ a' A' H',Ext H H'->ObjAt H' a' A' (remapO o R K)->Q (.ref a') H'):CN (n+4) "remap" [.ref a,.ref rw,.ref kp] H Q:=by
  have hR40:R.length<=40:=hl.symm ▸ w.len
  refine call_of rfl rfl (r_assignW CN_Mono (w_call (evs_cons (ev_var rfl) evs_nil) (new_places_spec hK (hkl.symm ▸ hR40) fun p H1 M1=>?_)))
  have g1:=M1.g
  rw [hkl] at g1
  have c:RmC H1 a kp p A o R K:=⟨hO.ext M1.e,w,M1.e _ _ hK,g1,hl,hkl⟩
  have h1:=c.ob
  have z:(0:Nat)<=1000:=Nat.zero_le _
  refine r_assignW CN_Mono (new_spec (fun a' A' H2 fa=>?_) (evs_cons (h1.ev rfl rfl) (evs_cons (h1.ev rfl rfl) evs_nil)))
  refine r_setNew fa (evn_bi (evs_cons ((h1.ext fa.e).ev rfl rfl) evs_nil) (list_list (h1.ext fa.e).him z)) rfl fun ims H3 fa=>?_
  refine r_setW CN_Mono fa rfl (w_call (evs_cons (ev_var rfl) (evs_cons (ev_var rfl) (evs_cons (ev_var rfl) (evs_cons (ev_var rfl) evs_nil)))) (moved_rows_spec (h1.ext fa.e) (fa.e _ _ (M1.e _ _ hR)) (fa.e _ _ c.k) (fa.e _ _ g1) hR40 hkl ht fun rws H4 M4=>⟨rws,rfl,M4,fun H5 fa=>?_⟩))
  refine r_setVal fa ((h1.ext fa.e).ev rfl rfl) rfl fun H6 fa=>?_
  refine r_setNew fa (evn_bi (evs_cons ((h1.ext fa.e).ev rfl rfl) evs_nil) (list_list (h1.ext fa.e).hw z)) rfl fun wds H7 fa=>?_
  refine r_setNew fa (evn_bi (evs_cons ((h1.ext fa.e).ev rfl rfl) evs_nil) (list_list (h1.ext fa.e).hd z)) rfl fun dfx H8 fa=>?_
  refine remap_fix (P:=[_,_,_,_,_,_,_,_]) c rfl fa fun x5 x6 x7 x8 H9 fa=>?_
  rw [fixK_all] at fa
  refine remap_ent (P:=[_,_,_,_,_,_,_]) c rfl fa fun x6 x9 H10 fa=>?_
  refine r_setNew fa (evn_bi (evs_cons ((h1.ext fa.e).ev rfl rfl) evs_nil) (list_list (h1.ext fa.e).hp z)) rfl fun pts H11 fa=>?_
  refine r_setW CN_Mono fa rfl (w_call (evs_cons (ev_var rfl) (evs_cons (ev_var rfl) (evs_cons (ev_var rfl) evs_nil))) (moved_maps_spec (h1.ext fa.e) fun mps H12 M12=>⟨mps,rfl,M12,fun H13 fa=>?_⟩))
  refine remap_com (P:=[_,_,_,_,_,_]) c rfl fa fun x10 H14 fa=>?_
  refine r_setVal fa (ev_sub (ev_var rfl) ((h1.ext fa.e).ev rfl rfl) (c.place fa.e w.body)) rfl fun H15 fa=>r_ret (ev_var rfl) (q a' ⟨A'.dx,ims,rws,wds,dfx,A'.fxs,A'.ens,pts,mps,A'.cms⟩ H15 (M1.e.trans fa.e) ?_)
  have f:=fa.f
  obtain ⟨f1,f⟩:=List.forall_mem_cons.mp f
  obtain ⟨f2,f⟩:=List.forall_mem_cons.mp f
  obtain ⟨f3,f⟩:=List.forall_mem_cons.mp f
  obtain ⟨f4,f⟩:=List.forall_mem_cons.mp f
  obtain ⟨f5,f⟩:=List.forall_mem_cons.mp f
  obtain ⟨f6,f⟩:=List.forall_mem_cons.mp f
  obtain ⟨f7,f⟩:=List.forall_mem_cons.mp f
  obtain ⟨f8,f⟩:=List.forall_mem_cons.mp f
  obtain ⟨f9,f⟩:=List.forall_mem_cons.mp f
  obtain ⟨uu,f⟩:=List.forall_mem_cons.mp f
  obtain ⟨uu,f⟩:=List.forall_mem_cons.mp f
  obtain ⟨f12,f⟩:=List.forall_mem_cons.mp f
  obtain ⟨f13,uu⟩:=List.forall_mem_cons.mp f
  exact ⟨f2,f1,f8,f7,f6,f5,f13,f12,f4,f3,f9⟩
end Mine.Wk
end
section
namespace Mine.Wk
open PySem
theorem w_fill {C:Cl} {ρ:Env} {H:AH} {e b:ME} {x:V} {n:Nat} {K:V->AH->Prop} (hn:n<=1000) (h1:Ev C e ρ H x) (h2:∀ H',Ext H H'->Ev C b ρ H' (.int n)) (k:∀ a H',Made H a (.list (List.replicate n x)) H'->K (.ref a) H'):wpE C (.bin .mul (.list [e]) b) ρ H K :=
  h1 _ fun t ht=>h2 _ (ext_set .rfl ht) _ (iR (r:=.new (.list (List.replicate n x))) (mulL set_same hn) fun a ha=>k a _ ⟨(ext_set .rfl ht).none ha,(ext_set .rfl ht).trans (ext_set .rfl ha),set_same⟩)
theorem w_call3 {C:Cl} {ρ:Env} {H:AH} {x y:V} {f:String} {e1 e2 e3:ME} {K:V->AH->Prop} (h1:Ev C e1 ρ H x) (h2:Ev C e2 ρ H y) (h3:wpE C e3 ρ H fun w H'=>C f [x,y,w] H' K):wpE C (.call f [e1,e2,e3]) ρ H K:=h1 _ (h2 _ h3)
theorem with_rows_spec {n:Nat} {H:AH} {Q:V->AH->Prop} {a rw:Nat} {A:Adr} {o:Ob} {R:List Row} (hO:ObjAt H a A o) (w:WF o) (hR:H rw=some (.list (R.map rowV)))
    (hl:R.length=o.rows.length) (ht:∀ (i:Nat) c off,R[i]? = some (.br c off)->0<=(i:Int)+1+off/\(i:Int)+1+off<=R.length)
    (q:∀ a' A' H',Ext H H'->ObjAt H' a' A' (remapO o R (List.replicate R.length true))->Q (.ref a') H'):CN (n+5) "with_rows" [.ref a,.ref rw] H Q:=by
  have hR40:R.length<=40:=hl.symm ▸ w.len
  refine call_of rfl rfl (r_retW (w_call3 (ev_var rfl) (ev_var rfl) (w_fill (n:=R.length) (c40' hR40 (by decide)) ev_bool (fun H' e=>len_at rfl (e _ _ hR) hR40) fun b H1 M=>?_)))
  exact remap_spec (K:=List.replicate R.length true) (hO.ext M.e) w (M.e _ _ hR) (by rw [M.g,List.map_replicate]) hl List.length_replicate ht fun a' A' H' e3 h3=>q a' A' H' (M.e.trans e3) h3
inductive Chain (R:List Row):Nat->Nat->Prop
  | refl (t:Nat):Chain R t t
  | step {t e:Nat} {off:Int} (h:R[t]? = some (.br .AL off)) (h2:Chain R ((t:Int)+1+off).toNat e):Chain R t e
theorem Chain.snoc {R:List Row} {t e:Nat} {off:Int} (h:Chain R t e) (h2:R[e]? = some (.br .AL off)):Chain R t ((e:Int)+1+off).toNat:=by
  induction h with
  | refl t=>exact .step h2 (.refl _)
  | step h3 _ ih=>exact .step h3 (ih h2)
theorem cnd_AL {c:Cnd}:(c.s == "AL")=decide (c = .AL):=by rcases c with ⟨⟩ <;> decide
theorem row_name {r:Row} {H:AH}:subF (rowV r) (.int 0) H=some (.str (rowName r)):=by rcases r with uu | uu | uu | uu | uu | uu <;> rfl
inductive EndJ (H:AH) (a t d:Nat) (R:List Row) (k:Nat) (ρ:Env) (H':AH):Prop
  | mk (D:List (Int × V)) (e:Nat) (hρ:ρ = [some (.ref a),some (.int t),some (.ref d),some (.int e)]) (x:Ext H H') (g:H' d=some (.di false D)) (hk:Keys D R.length) (c:Chain R t e) (l:e<R.length) (m:R.length - D.length+1<=k)
theorem less_m {R D k:Nat} (h:R - D+1<=k+1) (hD:D+1<=R):R - (D+1)+1<=k:=by omega
theorem end_spec {n:Nat} {H:AH} {Q:V->AH->Prop} {a t:Nat} {R:List Row} (hR:H a=some (.list (R.map rowV))) (hl:R.length<=40) (ht:t<R.length)
    (htg:∀ (i:Nat) off,R[i]? = some (.br .AL off)->0<=(i:Int)+1+off/\(i:Int)+1+off<R.length)
    (q:∀ H' (e:Nat),Ext H H'->Chain R t e->e<R.length->Q (.int e) H'):CN (n+2) "end_of_chain" [.ref a,.int t] H Q:=by
  refine call_of rfl rfl (r_new evn_dict0 fun d H1 N=>r_assign (ev_var rfl) (r_while CN_Mono (EndJ H a t d R) (k:=R.length+1) ?_ ⟨[],t,rfl,N.e,N.g,Keys.nil,.refl t,ht,Nat.le_refl _⟩))
  rintro k ρ H' ⟨D,e,rfl,e2,g2,hk,hch,he,hm⟩
  have hr:R[e]? = some R[e]:=List.getElem?_eq_getElem he
  have at_:Ev (CN (n+1)) (.sub (.var 0) (.var 3)) [some (.ref a),some (.int t),some (.ref d),some (.int e)] H' (rowV R[e]):=row_at rfl rfl (e2 _ _ hR) hr hl
  have out:rest (CN (n+1)) [.ret (.var 3)] (fun o x H'=>Q o.val H') [some (.ref a),some (.int t),some (.ref d),some (.int e)] H':=r_ret (ev_var rfl) (q H' e e2 hch he)
  have t1:EvT (CN (n+1)) (.cmp (.int 0) [.le] [.var 3]) [some (.ref a),some (.int t),some (.ref d),some (.int e)] H' true:=evt_cmp ev_int (ev_var rfl) (congrArg some (decide_eq_true (Int.natCast_nonneg e)))
  have t2:EvT (CN (n+1)) (.cmp (.var 3) [.lt] [.bi "len" [.var 0]]) [some (.ref a),some (.int t),some (.ref d),some (.int e)] H' true:=evt_cmp (ev_var rfl) (len_at rfl (e2 _ _ hR) hl) (congrArg some (decide_eq_true (Int.ofNat_lt.mpr he)))
  have t3:EvT (CN (n+1)) (.cmp (.sub (.sub (.var 0) (.var 3)) (.int 0)) [.eq] [.str "B"]) [some (.ref a),some (.int t),some (.ref d),some (.int e)] H' (isBr R[e]):=evt_cmp (ev_sub at_ ev_int row_name) ev_str (congrArg some name_B)
  rcases hB:isBr R[e] with uu | uu <;> rw [hB] at t3
  · exact .stop (evt_and (evt_t t1 (evt_t t2 (evt_f t3)))) out
  · rcases hre:R[e] with uu | uu | uu | ⟨c,off⟩ | uu | uu <;> try exact absurd ((congrArg isBr hre).symm.trans hB) nFT
    rw [hre] at hr at_
    have t4:EvT (CN (n+1)) (.cmp (.sub (.sub (.var 0) (.var 3)) (.int 1)) [.eq] [.str "AL"]) [some (.ref a),some (.int t),some (.ref d),some (.int e)] H' (decide (c = .AL)):=evt_cmp (ev_sub at_ ev_int rfl) ev_str (congrArg some cnd_AL)
    by_cases hc:c = .AL
    · subst hc
      have htt:=htg e off hr
      obtain ⟨j,rfl⟩:∃ j,k=j+1:=by
        rcases k with uu | k
        · exact nomatch hm
        · exact ⟨k,rfl⟩
      refine .go (evt_and (evt_t t1 (evt_t t2 (evt_t t3 (evt_t t4 evt_nil))))) j rfl ?_
      refine r_if CN_Mono (evt_cmp (op:=.isin) (ev_var rfl) (ev_var rfl) (in_di g2)) (fun hc=>r_ret (ev_var rfl) (q H' t e2 (.refl t) ht)) fun hc=>?_
      have hin:(e:Int) ∉ keys D:=fun h=>nTF ((dget_mem.mpr h).symm.trans hc)
      have hk2:Keys (dset D (e:Int) (.bool true)) R.length:=hk.set (Int.natCast_nonneg e) (Int.ofNat_lt.mpr he)
      have hnew:(dset D (e:Int) (.bool true)).length=D.length+1:=dset_new hin
      refine r_storeDi ev_bool (ev_var rfl) (ev_var rfl) g2 (c40' (Nat.le_trans hk.len hl) (by decide)) fun H3 m3=>?_
      have e3:=m3.ext e2 N.n
      refine r_assign (ev_call (evs_cons (row_at rfl rfl (e3 _ _ hR) hr hl) (evs_cons (ev_var rfl) evs_nil)) fun uu q=>target_of_spec q) ?_
      obtain ⟨u,hu⟩:=Int.eq_ofNat_of_zero_le htt.1
      have hs:=hch.snoc hr
      rw [hu] at hs htt ⊢
      exact rest_nil ⟨_,u,rfl,e3,m3.g,hk2,hs,Int.ofNat_lt.mp htt.2,hnew ▸ less_m hm (hnew ▸ hk2.len)⟩
    · rw [decide_eq_false hc] at t4
      exact .stop (evt_and (evt_t t1 (evt_t t2 (evt_t t3 (evt_f t4))))) out
noncomputable def StRow (R R1:List Row) (i:Nat) (r:Row):Prop:=R1[i]? = some r \/ ∃ c off e,r = .br c off/\c ≠ .NV/\R1[i]? = some (.br c ((e:Nat) - (i:Int) - 1))/\Chain R ((i:Int)+1+off).toNat e/\e<R.length
structure StOK (R R1:List Row):Prop where
  len:R1.length=R.length
  row:∀ (i:Nat) r,R[i]? = some r->StRow R R1 i r
inductive SgI (H:AH) (a rw:Nat) (R:List Row) (k:Nat) (ρ:Env) (H':AH):Prop
  | mk (x2 x3 x4:Option V) (R1:List Row) (hρ:ρ = [some (.ref a),some (.ref rw),x2,x3,x4]) (e:Ext H H') (g:H' rw=some (.list (R1.map rowV))) (l:R1.length=R.length) (s:∀ i,k<=i->R1[i]? = R[i]?) (d:∀ i<k,∀ r,R[i]? = some r->StRow R R1 i r)
theorem straight_turn {n:Nat} {H:AH} {a rw k:Nat} {A:Adr} {o:Ob} {x:V} {ρ:Env} {H':AH} {Q:PO} (hO:ObjAt H a A o) (w:WF o) (hrw:H rw=none) (hx:(rngL 0 (o.rows.length:Int))[k]? = some x) (h:SgI H a rw o.rows k ρ H') :
    Turn (CN (n+5)) (.one 2) x f_straightened_l0 (Body (SgI H a rw o.rows (k+1)) Q) ρ H':=by
  obtain ⟨x2,x3,x4,R1,rfl,e2,g2,hl1,hsame,hdone⟩:=h
  obtain ⟨rfl,hk⟩:=rngL_get hx
  have hk:k<o.rows.length:=hk
  rw [Int.zero_add]
  have hr:o.rows[k]? = some o.rows[k]:=List.getElem?_eq_getElem hk
  have hr1:=(hsame k (Nat.le_refl k)).trans hr
  have hkM:k<100000:=Nat.lt_trans hk (c40 w.len (by decide))
  have same:∀ x4,SgI H a rw o.rows (k+1) [some (.ref a),some (.ref rw),some (.int k),some (rowV o.rows[k]),x4] H':=fun x4=>⟨_,_,_,R1,rfl,e2,g2,hl1,fun i hi=>hsame i (Nat.le_of_succ_le hi),fun i hi r' hr'=>lt_succ_cases hi (fun h=>hdone i h r' hr') fun h=>.inl ((hsame i (Nat.le_of_eq h.symm)).trans hr')⟩
  refine ⟨_,rfl,r_assign (row_at rfl rfl g2 hr1 (hl1 ▸ w.len)) ?_⟩
  have tb:EvT (CN (n+5)) (.cmp (.sub (.var 3) (.int 0)) [.eq] [.str "B"]) [some (.ref a),some (.ref rw),some (.int k),some (rowV o.rows[k]),x4] H' (isBr o.rows[k]):=evt_cmp (name_at rfl) ev_str (congrArg some name_B)
  rcases hB:isBr o.rows[k] with uu | uu <;> rw [hB] at tb
  · exact r_ifF CN_Mono (evt_and (evt_f tb)) (rest_nil (same _))
  · rcases hre:o.rows[k] with uu | uu | uu | ⟨c,off⟩ | uu | uu <;> try exact absurd ((congrArg isBr hre).symm.trans hB) nFT
    rw [hre] at tb hr same
    refine r_if CN_Mono (evt_and (evt_t tb (evt_c (jump_at rfl) evt_nil))) (fun hc=>?_) fun hc=>rest_nil (same _)
    rw [Bool.and_true] at hc
    have hc':c ≠ .NV:=of_decide_eq_true hc
    have htg:=w.tgt k c off hr
    obtain ⟨t,htt⟩:=Int.eq_ofNat_of_zero_le htg.1
    have h3:=htg.2.2 hc'
    refine r_assignW CN_Mono (w_call2 ((hO.ext e2).ev rfl rfl) (target_at (c:=c) (off:=off) rfl rfl _ ?_))
    rw [htt] at h3 ⊢
    refine end_spec (hO.ext e2).hr w.len (Int.ofNat_lt.mp h3) (fun i off' hi=>⟨(w.tgt i .AL off' hi).1,(w.tgt i .AL off' hi).2.2 nofun⟩) fun H3 e e3 hch he=>?_
    have sb:∀ {a b:ME} {x y:Int} {ρ:Env},Ev (CN (n+5)) a ρ H3 (.int x)->Ev (CN (n+5)) b ρ H3 (.int y)->Ev (CN (n+5)) (.bin .sub a b) ρ H3 (.int (x - y)):=fun h1 h2=>ev_bin h1 h2 rfl
    have hkl:k<R1.length:=hl1.symm ▸ hk
    refine r_storeList (v:=rowV (.br c ((e:Int) - (k:Int) - 1))) (ev_tup (evs_cons (ev_sub (ev_var rfl) ev_int rfl) (evs_cons (ev_sub (ev_var rfl) ev_int rfl) (evs_cons (sb (sb (ev_var rfl) (ev_var rfl)) ev_int) (evs_cons (ev_sub (ev_var rfl) ev_int rfl) evs_nil))))) (ev_var rfl) (ev_var rfl) (e3 _ _ g2) ((List.length_map rowV).symm ▸ hkl) hkM fun H4 m4=>rest_nil ?_
    rw [<- List.map_set] at m4
    refine ⟨_,_,_,R1.set k (.br c ((e:Int) - (k:Int) - 1)),rfl,m4.ext (e2.trans e3) hrw,m4.g,(List.length_set ..).trans hl1,fun i hi=>?_,fun i hi r' hr'=>?_⟩
    · rw [get_set hkl,if_neg (Nat.ne_of_lt hi)]; exact hsame i (Nat.le_of_succ_le hi)
    · unfold StRow
      rw [get_set hkl]
      refine lt_succ_cases hi (fun h=>?_) fun h=>?_
      · rw [if_neg (Nat.ne_of_gt h)]; exact hdone i h r' hr'
      · subst h
        obtain rfl:=Option.some.inj (hr.symm.trans hr')
        exact .inr ⟨c,off,e,rfl,hc',if_pos rfl,by rw [htt]; exact hch,he⟩
theorem straightened_spec {n:Nat} {H:AH} {Q:V->AH->Prop} {a:Nat} {A:Adr} {o:Ob} (hO:ObjAt H a A o) (w:WF o)
    (q:∀ a' A' H' R1,Ext H H'->StOK o.rows R1->ObjAt H' a' A' (remapO o R1 (List.replicate R1.length true))->Q (.ref a') H'):CN (n+6) "straightened" [.ref a] H Q:=by
  refine call_of rfl rfl (r_new (evn_bi (evs_cons (hO.ev rfl rfl) evs_nil) (list_list hO.hr (by rw [List.length_map]; exact c40' w.len (by decide)))) fun rw H1 N=>?_)
  refine r_for CN_Mono (ev_bi (evs_cons (len_at (R:=o.rows) rfl N.g w.len) evs_nil) (range1 (c40' w.len (by decide)))) keys_rng iter_rng (SgI H a rw o.rows) (fun uu uu uu uu=>still_rng) (fun k x ρ H' hx h=>straight_turn hO w N.n hx h) ⟨_,_,_,o.rows,rfl,N.e,N.g,rfl,fun i uu=>rfl,fun i h=>nomatch h⟩ ?_
  rintro ρ H' ⟨x2,x3,x4,R1,rfl,e2,g2,hl1,hsame,hdone⟩
  rw [rngL_len] at hdone
  have hdone:∀ (i:Nat) r,o.rows[i]? = some r->StRow o.rows R1 i r:=fun i r hr=>hdone i (List.getElem?_eq_some_iff.mp hr).1 r hr
  refine r_retW (w_call (evs_cons (ev_var rfl) (evs_cons (ev_var rfl) evs_nil)) (with_rows_spec (hO.ext e2) w g2 hl1 (fun i c off hi=>?_) fun a' A' H3 e3 h3=>q a' A' H3 R1 (e2.trans e3) ⟨hl1,hdone⟩ h3))
  have hil:i<o.rows.length:=hl1 ▸ (List.getElem?_eq_some_iff.mp hi).1
  have hr:o.rows[i]? = some o.rows[i]:=List.getElem?_eq_getElem hil
  rcases hdone i _ hr with h1 | ⟨c',off',e,uu,hc',h1,hch,he⟩
  · have:=w.tgt i c off (hr.trans (h1.symm.trans hi))
    rw [hl1]; exact ⟨this.1,this.2.1⟩
  · obtain ⟨uu,rfl⟩:=Row.brI (Option.some.inj (h1.symm.trans hi))
    have e1:(i:Int)+1+((e:Int) - i - 1)=e:=by omega
    rw [e1]; exact ⟨Int.natCast_nonneg e,hl1.symm ▸ Int.ofNat_le.mpr (Nat.le_of_lt he)⟩
end Mine.Wk
end
section
namespace Mine.Wk
open PySem
theorem ev_andF {C:Cl} {ρ:Env} {H:AH} {a b:ME} {es:List ME} (h:Ev C a ρ H (.bool false)):Ev C (.and (a::b::es)) ρ H (.bool false):=fun Q q=>h _ q
theorem ev_or2 {C:Cl} {ρ:Env} {H:AH} {a b:ME} {c d:Bool} (h1:Ev C a ρ H (.bool c)) (h2:Ev C b ρ H (.bool d)):Ev C (.or [a,b]) ρ H (.bool (c || d)):=fun Q q=>h1 _ (by
  rcases c with uu | uu
  · exact h2 _ q
  · exact q)
inductive Pair (K:V->V->AH->Prop) (v:V) (H:AH):Prop
  | mk (x y:V) (e:v = .tup [x,y]) (k:K x y H)
theorem r_pair {C:Cl} (hC:Mono C) {ρ:Env} {H:AH} {Q:PO} {ss:List MS} {i j:Nat} {e:ME} (h:wpE C e ρ H (Pair fun x y H'=>rest C ss Q (setV (setV ρ i x) j y) H')):rest C (.unpack [.var i,.var j] e::ss) Q ρ H :=
  ⟨wpE_mono hC e _ _ _ _ (fun v H' z=>by
    obtain ⟨x,y,rfl,z⟩:=z
    exact z.w) h⟩
theorem len_of {C:Cl} {ρ:Env} {H:AH} {a:Nat} {e:ME} {R:List Row} (h1:Ev C e ρ H (.ref a)) (hR:H a=some (.list (R.map rowV))) (hl:R.length<=40):Ev C (.bi "len" [e]) ρ H (.int R.length) :=
  ev_bi (evs_cons h1 evs_nil) (len_map hR (Nat.le_trans hl (by decide)))
theorem row_of {C:Cl} {ρ:Env} {H:AH} {a i:Nat} {e b:ME} {R:List Row} {r:Row} (h1:Ev C e ρ H (.ref a)) (h2:Ev C b ρ H (.int i)) (hR:H a=some (.list (R.map rowV))) (hi:R[i]? = some r) (hl:R.length<=40):Ev C (.sub e b) ρ H (rowV r) :=
  ev_sub h1 h2 (sub_row hR hi hl)
theorem WF.jumps {o:Ob} (w:WF o) (i:Nat) (c:Cnd) (off:Int) (hi:o.rows[i]? = some (.br c off)):0<=(i:Int)+1+off/\(i:Int)+1+off<=o.rows.length:=⟨(w.tgt i c off hi).1,(w.tgt i c off hi).2.1⟩
theorem w_remap {n kp:Nat} {H:AH} {K:List Bool} {Q:V->AH->Prop} {ρ:Env} {a j x:Nat} {A:Adr} {o:Ob} (hO:ObjAt H a A o) (w:WF o) (hj:getV ρ j=some (.ref a)) (hx:getV ρ x=some (.ref kp)) (hK:H kp=some (.list (K.map V.bool))) (hl:K.length=o.rows.length)
    (q:∀ a' A' H',Ext H H'->ObjAt H' a' A' (remapO o o.rows K)->Q (.ref a') H'):wpE (CN (n+4)) (.call "remap" [.var j,.attr (.var j) "rows",.var x]) ρ H Q :=
  w_call (evs_cons (ev_var hj) (evs_cons (hO.ev hj rfl) (evs_cons (ev_var hx) evs_nil))) (remap_spec hO w hO.hr hK rfl hl w.jumps q)
theorem rangeB {g:Nat->Bool} {k:Nat}:((List.range k).map g).map V.bool ++ [.bool (g k)]=((List.range (k+1)).map g).map V.bool:=by rw [List.range_succ,List.map_append,List.map_append]; rfl
theorem range_get {g:Nat->Bool} {k i:Nat} {b:Bool} (h:((List.range k).map g)[i]? = some b):g i=b:=map_get h fun y hy e=>by
  have:=(List.getElem?_eq_some_iff.mp hy).2
  rw [List.getElem_range] at this
  rw [this]; exact e
structure DeadOK (o:Ob) (K:List Bool):Prop where
  len:K.length=o.rows.length
  body:K[o.body]? = some true
  go:K[o.go]? = some true
  ent:∀ e ∈ o.ent,K[e]? = some true
  succ:∀ (i:Nat) r x,o.rows[i]? = some r->K[i]? = some true->x ∈ succU o.rows.length i r->K[x.toNat]? = some true
inductive DdI (H:AH) (a kp r n:Nat) (L:List Int) (k:Nat) (ρ:Env) (H':AH):Prop
  | mk (x2:Option V) (K:List Bool) (hρ:ρ = [some (.ref a),some (.ref kp),x2]) (e:Ext H H') (gr:H' r=some (.list (L.map V.int))) (gk:H' kp=some (.list (K.map V.bool))) (l:K.length=n) (s:∀ i:Nat,K[i]? = some true->(i:Int) ∈ L) (d:∀ j<k,∀ x,L[j]? = some x->K[x.toNat]? = some true)
theorem dead_spec {n:Nat} {H:AH} {Q:V->AH->Prop} {a:Nat} {A:Adr} {o:Ob} (hO:ObjAt H a A o) (w:WF o)
    (q:∀ a' A' H' K,Ext H H'->DeadOK o K->ObjAt H' a' A' (remapO o o.rows K)->Q (.ref a') H'):CN (n+5) "without_dead" [.ref a] H Q:=by
  have hlen:=w.len
  refine call_of rfl rfl (r_assignW CN_Mono (w_fill (n:=o.rows.length) (c40' hlen (by decide)) ev_bool (fun H' e=>len_of ((hO.ext e).ev rfl rfl) (hO.ext e).hr hlen) fun kp H1 M1=>?_))
  have h1:=hO.ext M1.e
  refine r_forW CN_Mono (w_call2 (h1.ev rfl rfl) (w_call (evs_cons (ev_var rfl) evs_nil) (start_spec h1 w fun s H2 S M2 S2=>reach_spec (h1.ext M2.e).hr M2.g hlen (Nat.le_trans S2.l (by decide)) S2.r fun r H3 L M3 L3=>?_)))
  have g1:=M3.e _ _ (M2.e _ _ M1.g)
  have hrkp:r ≠ kp:=(ne_of_none (M2.e _ _ M1.g) M3.n).symm
  refine ⟨r,_,rfl,M3.g,DdI H a kp r o.rows.length L,?_,?_,⟨_,List.replicate o.rows.length false,rfl,M1.e.trans (M2.e.trans M3.e),M3.g,by rw [List.map_replicate]; exact g1,List.length_replicate,fun i hi=>?_,fun j h=>nomatch h⟩,?_⟩
  · rintro k ρ H' ⟨uu,uu,uu,uu,gr,uu⟩
    exact gr
  · rintro k x ρ H' hx ⟨x2,K,rfl,e4,gr,gk,hKl,hKL,hin⟩
    refine map_get hx fun y hy hv=>?_
    subst hv
    have hyr:=L3.r y (List.mem_of_getElem? hy)
    obtain ⟨i,rfl⟩:=Int.eq_ofNat_of_zero_le hyr.1
    have hil:i<K.length:=hKl.symm ▸ Int.ofNat_lt.mp hyr.2
    have up:∀ {z:Nat},K[z]? = some true->(K.set i true)[z]? = some true:=fun h=>by
      rw [get_set hil]; split
      · rfl
      · exact h
    refine ⟨_,rfl,r_storeList ev_bool (ev_var rfl) (ev_var rfl) gk ((List.length_map V.bool).symm ▸ hil) (Nat.lt_trans hil (hKl ▸ c40 hlen (by decide))) fun H4 m4=>?_⟩
    rw [boolL_set] at m4
    refine rest_nil ⟨_,K.set i true,rfl,m4.ext e4 M1.n,(m4.o _ hrkp).trans gr,m4.g,(List.length_set ..).trans hKl,fun j hj=>?_,fun j hj z hz=>lt_succ_cases hj (fun h=>up (hin j h z hz)) fun h=>?_⟩
    · rw [get_set hil] at hj
      split at hj
      · rename_i e; subst e; exact List.mem_of_getElem? hy
      · exact hKL j hj
    · subst h
      obtain rfl:=Option.some.inj (hy.symm.trans hz)
      rw [get_set hil]; exact if_pos rfl
  · rw [List.getElem?_replicate] at hi
    split at hi <;> exact nomatch hi
  · rintro ρ H4 ⟨x2,K,rfl,e4,gr,gk,hKl,hKL,hin⟩
    rw [List.length_map] at hin
    have hin:∀ x ∈ L,K[x.toNat]? = some true:=fun x hx=>by
      obtain ⟨j,hj⟩:=List.getElem?_of_mem hx
      exact hin j (List.getElem?_eq_some_iff.mp hj).1 x hj
    exact r_retW (w_remap (hO.ext e4) w rfl rfl gk hKl fun a' A' H5 e5 h5=>q a' A' H5 K (e4.trans e5) ⟨hKl,hin _ (L3.e _ S2.b),hin _ (L3.e _ S2.g),fun e he=>hin _ (L3.e _ (S2.e e he)),fun i r x hi hk hx=>hin _ (L3.s i r x hi (hKL i hk) hx)⟩ h5)
structure BrOK (o:Ob) (K:List Bool):Prop where
  len:K.length=o.rows.length
  out:∀ (i:Nat) r,o.rows[i]? = some r->K[i]? = some false->∃ c off,r = .br c off/\(off=0 \/ c = .NV)
noncomputable def idleB:Row->Bool
  | .br c off=>off == 0 || !jumps (.br c off)
  | _=>false
theorem idleB_base {r:Row} (h:isBr r=false):idleB r=false:=by rcases r with uu | uu | uu | uu | uu | uu <;> first | rfl | exact absurd h nTF
noncomputable def keepB (R:List Row) (i:Nat):Bool:=match R[i]? with
  | some r=>!idleB r || false
  | none=>true
inductive IbI (H:AH) (a tb kp:Nat) (R:List Row) (k:Nat) (ρ:Env) (H':AH):Prop
  | mk (x3 x4 x5:Option V) (hρ:ρ = [some (.ref a),some (.ref tb),some (.ref kp),x3,x4,x5]) (e:Ext H H') (gt:H' tb=some (.di false [])) (gk:H' kp=some (.list (((List.range k).map (keepB R)).map V.bool)))
theorem kept_len {g:Nat->Bool} {k:Nat} (h:k<=40):(((List.range k).map g).map V.bool).length<10000:=by rw [List.length_map,List.length_map,List.length_range]; exact c40 h (by decide)
theorem idle_br_spec {n:Nat} {H:AH} {Q:V->AH->Prop} {a:Nat} {A:Adr} {o:Ob} (hO:ObjAt H a A o) (w:WF o)
    (q:∀ a' A' H' K,Ext H H'->BrOK o K->ObjAt H' a' A' (remapO o o.rows K)->Q (.ref a') H'):CN (n+5) "without_idle_branches" [.ref a] H Q:=by
  have hlen:=w.len
  refine call_of rfl rfl (r_assignW CN_Mono (w_call (evs_cons (ev_var rfl) evs_nil) (table_spec hO fun tb H1 M1=>r_new (evn_list evs_nil) fun kp H2 N2=>?_)))
  have E2:=M1.e.trans N2.e
  have hkp:=M1.e.none N2.n
  have htk:tb ≠ kp:=ne_of_none M1.g N2.n
  refine r_for CN_Mono (ev_bi (evs_cons (len_of ((hO.ext E2).ev rfl rfl) (hO.ext E2).hr hlen) evs_nil) (range1 (c40' hlen (by decide)))) keys_rng iter_rng (IbI H a tb kp o.rows) (fun uu uu uu uu=>still_rng) ?_ ⟨_,_,_,rfl,E2,N2.e _ _ M1.g,N2.g⟩ ?_
  · rintro k x ρ H' hx ⟨x3,x4,x5,rfl,e4,gt,gk⟩
    obtain ⟨rfl,hk⟩:=rngL_get hx
    have hk:k<o.rows.length:=hk
    rw [Int.zero_add]
    have hr:o.rows[k]? = some o.rows[k]:=List.getElem?_eq_getElem hk
    have hkb:keepB o.rows k=(!idleB o.rows[k] || false):=by unfold keepB; rw [hr]
    refine ⟨_,rfl,r_assign (row_of ((hO.ext e4).ev rfl rfl) (ev_var rfl) (hO.ext e4).hr hr hlen) (r_assign (v:=.bool (idleB o.rows[k])) ?_ (r_append (v:=.bool (keepB o.rows k)) (ev_var rfl) gk (kept_len (Nat.le_trans (Nat.le_of_lt hk) hlen))
      (hkb ▸ ev_or2 (ev_not (ev_var rfl) rfl) (ev_cmp (op:=.isin) (c:=false) (ev_var rfl) (ev_var rfl) (show cmpF .isin (.int (k:Int)) (.ref tb) H'=some false from (in_di gt).trans rfl))) fun H5 m5=>?_))⟩
    · have tb:Ev (CN (n+4)) (.cmp (.sub (.var 4) (.int 0)) [.eq] [.str "B"]) [some (.ref a),some (.ref tb),some (.ref kp),some (.int k),some (rowV o.rows[k]),x5] H' (.bool (isBr o.rows[k])):=ev_cmp (name_at rfl) ev_str (congrArg some name_B)
      rcases hB:isBr o.rows[k] with uu | uu <;> rw [hB] at tb
      · rw [idleB_base hB]; exact ev_andF tb
      · rcases hre:o.rows[k] with uu | uu | uu | ⟨c,off⟩ | uu | uu <;> try exact absurd ((congrArg isBr hre).symm.trans hB) nFT
        rw [hre] at tb
        exact ev_and2 tb (ev_or2 (ev_cmp (at_row (r:=.br c off) (k:=2) rfl rfl) ev_int rfl) (ev_not (ev_call (evs_cons (ev_var rfl) evs_nil) fun uu q=>can_jump_spec q) rfl))
    · rw [rangeB] at m5
      exact rest_nil ⟨_,_,_,rfl,m5.ext e4 hkp,(m5.o _ htk).trans gt,m5.g⟩
  · rintro ρ H4 ⟨x3,x4,x5,rfl,e4,gt,gk⟩
    rw [rngL_len] at gk
    refine r_retW (w_remap (hO.ext e4) w rfl rfl gk ((List.length_map _).trans List.length_range) fun a' A' H5 e5 h5=>q a' A' H5 _ (e4.trans e5) ⟨(List.length_map _).trans List.length_range,fun i r hi hf=>?_⟩ h5)
    have hf:=range_get hf
    unfold keepB at hf
    rw [hi] at hf
    have hf:(!idleB r || false)=false:=hf
    rw [Bool.or_false] at hf
    have hf:=not_f' hf
    rcases r with uu | uu | uu | ⟨c,off⟩ | uu | uu <;> try exact absurd hf nFT
    refine ⟨c,off,rfl,(Bool.or_eq_true_iff.mp hf).imp (fun h=>beq_iff_eq.mp h) fun h=>?_⟩
    have h:=not_e' h
    exact Classical.not_not.mp (of_decide_eq_false h)
noncomputable def isIdle:Row->Bool
  | .reg .MOV a _ c=>decide (a=c)
  | .imm op a b c=>decide (op ≠ .MOVI/\a=b/\c=0)
  | _=>false
theorem nbeq {a b:Nat}:((a:Int) == (b:Int))=decide (a=b):=ibeq.trans (decide_eq_decide.mpr Int.ofNat_inj)
theorem idle_ev {n:Nat} {H:AH} {r:Row}:EvF (CN (n+1)) "is_idle" [rowV r] H (.bool (isIdle r)):=fun Q q=>by
  refine call_of rfl rfl (r_if CN_Mono (evt_cmp (name_at rfl) ev_str (c:=rowName r == "MOV") rfl) (fun hc=>?_) fun h1=>?_)
  · rcases r with ⟨⟨⟩,a,b,c⟩ | ⟨⟨⟩,a,b,c⟩ | ⟨⟨⟩,a,c⟩ | uu | uu | uu <;> try exact absurd hc nFT
    exact r_ret (ev_cmp (at_row (r:=.reg .MOV a b c) (k:=1) rfl rfl) (at_row (r:=.reg .MOV a b c) (k:=3) rfl rfl) (congrArg some nbeq)) q
  refine r_if CN_Mono (evt_cmp (op:=.isin) (name_at rfl) (ev_tup (evs_cons ev_str (evs_cons ev_str (evs_cons ev_str (evs_cons ev_str (evs_cons ev_str (evs_cons ev_str (evs_cons ev_str (evs_cons ev_str evs_nil))))))))) (anyF_strs ["ADDI", "SUBI", "IORI", "XORI", "ANNI", "LSLI", "ASRI", "RORI"])) (fun hc=>?_) fun h2=>r_ret ev_bool ?_
  · rcases r with ⟨⟨⟩,a,b,c⟩ | ⟨op,a,b,c⟩ | ⟨⟨⟩,a,c⟩ | uu | uu | uu <;> try exact absurd hc nFT
    have hop:op ≠ .MOVI:=fun e=>by subst e; exact absurd hc nFT
    have e:isIdle (.imm op a b c)=(((a:Int) == (b:Int)) && (c == 0)):=by
      rw [nbeq,ibeq,<- Bool.decide_and]
      exact decide_eq_decide.mpr ⟨fun h=>h.2,fun h=>⟨hop,h⟩⟩
    rw [e] at q
    exact r_ret (ev_and2 (ev_cmp (at_row (r:=.imm op a b c) (k:=1) rfl rfl) (at_row (r:=.imm op a b c) (k:=2) rfl rfl) rfl) (ev_cmp (at_row (r:=.imm op a b c) (k:=3) rfl rfl) ev_int rfl)) q
  · rcases r with ⟨⟨⟩,a,b,c⟩ | ⟨⟨⟩,a,b,c⟩ | ⟨⟨⟩,a,c⟩ | uu | uu | uu <;> first | exact absurd h1 nTF | exact absurd h2 nTF | exact q
structure IdleOK (o:Ob) (K:List Bool):Prop where
  len:K.length=o.rows.length
  out:∃ A FL,LiveOK o.rows A FL /\ ∀ (i:Nat) r,o.rows[i]? = some r->K[i]? = some false->isIdle r=true/\i ∉ o.fix/\(A.getD i 0).testBit 17=false
noncomputable def keepI (R:List Row) (D:List (Int × V)) (Af:List Nat) (i:Nat):Bool:=match R[i]? with
  | some r=>!(isIdle r && !(dget D (i:Int)).isSome) || (Af.getD i 0).testBit 17
  | none=>true
inductive IrI (H:AH) (a fx bf af kp:Nat) (R:List Row) (D:List (Int × V)) (Af:List Nat) (k:Nat) (ρ:Env) (H':AH):Prop
  | mk (x5 x6:Option V) (hρ:ρ = [some (.ref a),some (.ref fx),some (.ref bf),some (.ref af),some (.ref kp),x5,x6]) (e:Ext H H') (gf:H' fx=some (.di false D)) (ga:H' af=some (.list (natL Af))) (gk:H' kp=some (.list (((List.range k).map (keepI R D Af)).map V.bool)))
theorem idle_rows_spec {n:Nat} {H:AH} {Q:V->AH->Prop} {a:Nat} {A:Adr} {o:Ob} (hO:ObjAt H a A o) (w:WF o)
    (q:∀ a' A' H' K,Ext H H'->IdleOK o K->ObjAt H' a' A' (remapO o o.rows K)->Q (.ref a') H'):CN (n+7) "without_idle_rows" [.ref a] H Q:=by
  have hlen:=w.len
  refine call_of rfl rfl (r_assignW CN_Mono (w_call (evs_cons (ev_var rfl) evs_nil) (fixed_spec hO w fun fx H1 D M1 hD=>?_)))
  have h1:=hO.ext M1.e
  refine r_pair CN_Mono (w_call (evs_cons (h1.ev rfl rfl) evs_nil) (liveness_spec h1.hr hlen w.ok fun bf af H2 Af FL e2 gaf haf hlive=>⟨_,_,rfl,r_new (evn_list evs_nil) fun kp H3 N3=>?_⟩))
  have hkp:=M1.e.none (e2.none N3.n)
  have E3:=M1.e.trans (e2.trans N3.e)
  have hkaf:af ≠ kp:=ne_of_none gaf N3.n
  have hfk:fx ≠ kp:=ne_of_none (e2 _ _ M1.g) N3.n
  refine r_for CN_Mono (ev_bi (evs_cons (len_of ((hO.ext E3).ev rfl rfl) (hO.ext E3).hr hlen) evs_nil) (range1 (c40' hlen (by decide)))) keys_rng iter_rng (IrI H a fx bf af kp o.rows D Af) (fun uu uu uu uu=>still_rng) ?_ ⟨_,_,rfl,E3,N3.e _ _ (e2 _ _ M1.g),N3.e _ _ gaf,N3.g⟩ ?_
  · rintro k x ρ H' hx ⟨x5,x6,rfl,e4,gfx,gaf,gk⟩
    obtain ⟨rfl,hk⟩:=rngL_get hx
    have hk:k<o.rows.length:=hk
    rw [Int.zero_add]
    have hr:o.rows[k]? = some o.rows[k]:=List.getElem?_eq_getElem hk
    have hkb:keepI o.rows D Af k=(!(isIdle o.rows[k] && !(dget D (k:Int)).isSome) || (Af.getD k 0).testBit 17):=by unfold keepI; rw [hr]
    refine ⟨_,rfl,r_assign (ev_and2 (ev_call (evs_cons (row_of ((hO.ext e4).ev rfl rfl) (ev_var rfl) (hO.ext e4).hr hr hlen) evs_nil) idle_ev) (ev_cmp (op:=.notin) (ev_var rfl) (ev_var rfl) (c:=!(dget D (k:Int)).isSome) (by rw [cm_notin,in_di gfx]; rfl)))
      (r_append (v:=.bool (keepI o.rows D Af k)) (ev_var rfl) gk (kept_len (Nat.le_trans (Nat.le_of_lt hk) hlen)) (hkb ▸ ev_or2 (ev_not (ev_var rfl) rfl) (ev_call (evs_cons (ev_sub (ev_var rfl) (ev_var rfl) (sub_nat gaf (hlive.len.symm ▸ hk) (Nat.lt_trans hk (c40 hlen (by decide))))) (evs_cons ev_glob evs_nil)) is_live_ev)) fun H5 m5=>?_)⟩
    rw [rangeB] at m5
    exact rest_nil ⟨_,_,rfl,m5.ext e4 hkp,(m5.o _ hfk).trans gfx,(m5.o _ hkaf).trans gaf,m5.g⟩
  · rintro ρ H4 ⟨x5,x6,rfl,e4,uu,uu,gk⟩
    rw [rngL_len] at gk
    refine r_retW (w_remap (hO.ext e4) w rfl rfl gk ((List.length_map _).trans List.length_range) fun a' A' H5 e5 h5=>q a' A' H5 _ (e4.trans e5) ⟨(List.length_map _).trans List.length_range,Af,FL,hlive,fun i r hi hf=>?_⟩ h5)
    have hf:=range_get hf
    unfold keepI at hf
    rw [hi] at hf
    have hf:(!(isIdle r && !(dget D (i:Int)).isSome) || (Af.getD i 0).testBit 17)=false:=hf
    obtain ⟨f1,f2⟩:=Bool.or_eq_false_iff.mp hf
    obtain ⟨f1,f3⟩:=Bool.and_eq_true_iff.mp (not_f' f1)
    exact ⟨f1,fun hm=>nTF ((dget_mem.mpr (hD i hm)).symm.trans (not_e' f3)),f2⟩
end Mine.Wk
end
section
namespace Mine.Wk
open PySem
noncomputable def sameF:Row->Row->Bool
  | .mem .STR _ c,.mem .LDR _ c2=>decide (c=c2)
  | _,_=>false
theorem name_STR {r:Row} {P:Row->Prop} (h:(rowName r == "STR")=true) (k:∀ a c,P (.mem .STR a c)):P r:=by
  rcases r with ⟨⟨⟩,a,b,c⟩ | ⟨⟨⟩,a,b,c⟩ | ⟨⟨⟩,a,c⟩ | uu | uu | uu <;> first | exact absurd h nFT | exact k _ _
theorem name_LDR {r:Row} {P:Row->Prop} (h:(rowName r == "LDR")=true) (k:∀ a c,P (.mem .LDR a c)):P r:=by
  rcases r with ⟨⟨⟩,a,b,c⟩ | ⟨⟨⟩,a,b,c⟩ | ⟨⟨⟩,a,c⟩ | uu | uu | uu <;> first | exact absurd h nFT | exact k _ _
theorem same_no1 {r r2:Row} (h:(rowName r == "STR")=false):sameF r r2=false:=by
  rcases r with uu | uu | ⟨⟨⟩,a,c⟩ | uu | uu | uu <;> first | exact absurd h nTF | rfl
theorem same_no2 {r r2:Row} (h:(rowName r2 == "LDR")=false):sameF r r2=false:=by
  rcases r with uu | uu | ⟨⟨⟩,a,c⟩ | uu | uu | uu <;> try rfl
  rcases r2 with uu | uu | ⟨⟨⟩,a,c⟩ | uu | uu | uu <;> first | exact absurd h nTF | rfl
theorem same_ev {n:Nat} {H:AH} {r r2:Row}:EvF (CN (n+1)) "same_word" [rowV r,rowV r2] H (.bool (sameF r r2)):=fun Q q=>by
  refine call_of rfl rfl (r_if CN_Mono (evt_or (evo_c (evt_cmp (op:=.ne) (name_at rfl) ev_str (c:=!(rowName r == "STR")) rfl) (evo_c (evt_cmp (op:=.ne) (name_at rfl) ev_str (c:=!(rowName r2 == "LDR")) rfl) evo_nil))) (fun hc=>r_ret ev_bool ?_) fun hc=>?_)
  · have e:sameF r r2=false:=(Bool.or_eq_true_iff.mp hc).elim (fun h=>same_no1 (not_e' h)) fun h=>same_no2 (not_e' ((Bool.or_false _).symm.trans h))
    exact e ▸ q
  · obtain ⟨h1,h2⟩:=Bool.or_eq_false_iff.mp hc
    have h2:=not_f' ((Bool.or_false _).symm.trans h2)
    revert q
    refine name_STR (P:=fun r=>Q (.bool (sameF r r2)) H->rest (CN n) _ _ [some (rowV r),some (rowV r2)] H) (not_f' h1) fun a c=>name_LDR (P:=fun r2=>Q (.bool (sameF (.mem .STR a c) r2)) H->rest (CN n) _ _ [some (rowV (.mem .STR a c)),some (rowV r2)] H) h2 fun a2 c2 q=>?_
    exact r_ret (ev_and2 (ev_cmp (at_row (r:=.mem .STR a c) (k:=2) rfl rfl) (at_row (r:=.mem .LDR a2 c2) (k:=2) rfl rfl) (c:=true) rfl) (ev_cmp (at_row (r:=.mem .STR a c) (k:=3) rfl rfl) (at_row (r:=.mem .LDR a2 c2) (k:=3) rfl rfl) (congrArg some ibeq))) q
noncomputable def RS (o:Ob) (E:Nat->Prop) (A:List Nat) (i:Nat) (r:Row) (k:Bool) (r1:Row):Prop :=
  (k=true/\r1=r) \/ ∃ a c a2,0<i /\ ¬ E i/\i ∉ o.fix/\o.rows[i - 1]? = some (.mem .STR a c)/\r = .mem .LDR a2 c /\
    ((k=false/\r1=r/\a2=a) \/ (k=true/\r1 = .reg .MOV a2 0 a/\(A.getD i 0).testBit 17=false))
structure RelOK (o:Ob) (R1:List Row) (K:List Bool):Prop where
  len1:R1.length=o.rows.length
  lenK:K.length=o.rows.length
  out:∃ A FL E,LiveOK o.rows A FL/\E o.body/\E o.go/\(∀ e ∈ o.ent,E e)/\(∀ (i:Nat) c off,o.rows[i]? = some (.br c off)->c ≠ .NV->E ((i:Int)+1+off).toNat) /\
    ∀ (i:Nat) r k r1,o.rows[i]? = some r->K[i]? = some k->R1[i]? = some r1->RS o E A i r k r1
theorem range2 {m n:Int} {H:AH} (h:m<=1000 /\ -1000<=m/\n<=1000 /\ -1000<=n):biF "range" [.int m,.int n] H=some (.val (.rng m n)):=by
  show (if m<=1000 /\ -1000<=m/\n<=1000 /\ -1000<=n then some (Rs.val (.rng m n)) else none)=_
  exact if_pos h
theorem ev_andT {C:Cl} {ρ:Env} {H:AH} {a b:ME} {es:List ME} {v:V} (h:Ev C a ρ H (.bool true)) (k:Ev C (.and (b::es)) ρ H v):Ev C (.and (a::b::es)) ρ H v:=fun Q q=>h _ (k _ q)
theorem ev_and3 {C:Cl} {ρ:Env} {H:AH} {a b e:ME} {c d f:Bool} (h1:Ev C a ρ H (.bool c)) (h2:Ev C b ρ H (.bool d)) (h3:Ev C e ρ H (.bool f)):Ev C (.and [a,b,e]) ρ H (.bool (c && (d && f))):=by
  rcases c with uu | uu
  · exact ev_andF h1
  · exact (ev_andT h1 (ev_and2 h2 h3):Ev C (.and [a,b,e]) ρ H (.bool (d && f)))
structure QA where
  a:Nat
  fx:Nat
  en:Nat
  bf:Nat
  af:Nat
  rw:Nat
  kp:Nat
noncomputable def envQ (A:QA) (x7 x8 x9 x10:Option V):Env:=[some (.ref A.a),some (.ref A.fx),some (.ref A.en),some (.ref A.bf),some (.ref A.af),some (.ref A.rw),some (.ref A.kp),x7,x8,x9,x10]
structure RlD (H:AH) (A:QA):Prop where
  rw:H A.rw=none
  kp:H A.kp=none
  fr:A.fx ≠ A.rw
  er:A.en ≠ A.rw
  ar:A.af ≠ A.rw
  fk:A.fx ≠ A.kp
  ek:A.en ≠ A.kp
  ak:A.af ≠ A.kp
  rk:A.rw ≠ A.kp
structure RlS (H:AH) (A:QA) (D E:List (Int × V)) (Af:List Nat) (R1:List Row) (K:List Bool) (H':AH):Prop where
  e:Ext H H'
  f:H' A.fx=some (.di false D)
  n:H' A.en=some (.di false E)
  a:H' A.af=some (.list (natL Af))
  r:H' A.rw=some (.list (R1.map rowV))
  k:H' A.kp=some (.list (K.map V.bool))
section
variable {H H' H'':AH} {A:QA} {D E:List (Int × V)} {Af:List Nat} {R1 R2:List Row} {K K2:List Bool}
theorem RlS.setR (s:RlS H A D E Af R1 K H') (d:RlD H A) (m:Mut H' A.rw (.list (R2.map rowV)) H''):RlS H A D E Af R2 K H'':=⟨m.ext s.e d.rw,(m.o _ d.fr).trans s.f,(m.o _ d.er).trans s.n,(m.o _ d.ar).trans s.a,m.g,(m.o _ d.rk.symm).trans s.k⟩
theorem RlS.setK (s:RlS H A D E Af R1 K H') (d:RlD H A) (m:Mut H' A.kp (.list (K2.map V.bool)) H''):RlS H A D E Af R1 K2 H'':=⟨m.ext s.e d.kp,(m.o _ d.fk).trans s.f,(m.o _ d.ek).trans s.n,(m.o _ d.ak).trans s.a,(m.o _ d.rk).trans s.r,m.g⟩
end
noncomputable def InK (E:List (Int × V)) (i:Nat):Prop:=(i:Int) ∈ keys E
structure RlP (o:Ob) (E:List (Int × V)) (Af:List Nat) (k:Nat) (R1:List Row) (K:List Bool):Prop where
  l1:R1.length=o.rows.length
  lK:K.length=o.rows.length
  same:∀ i,k<i->i<o.rows.length->K[i]? = some true/\R1[i]? = o.rows[i]?
  st:∀ (i:Nat) r b r1,o.rows[i]? = some r->K[i]? = some b->R1[i]? = some r1->RS o (InK E) Af i r b r1
inductive RlI (H:AH) (A:QA) (o:Ob) (D E:List (Int × V)) (Af:List Nat) (k:Nat) (ρ:Env) (H':AH):Prop
  | mk (x7 x8 x9 x10:Option V) (R1:List Row) (K:List Bool) (hρ:ρ = envQ A x7 x8 x9 x10) (s:RlS H A D E Af R1 K H') (p:RlP o E Af k R1 K)
theorem RlP.next {o:Ob} {E:List (Int × V)} {Af:List Nat} {k:Nat} {R1:List Row} {K:List Bool} (p:RlP o E Af k R1 K):RlP o E Af (k+1) R1 K:=⟨p.l1,p.lK,fun i h=>p.same i (Nat.lt_of_succ_lt h),p.st⟩
theorem RlP.setR {o:Ob} {E:List (Int × V)} {Af:List Nat} {k:Nat} {R1:List Row} {K:List Bool} {r r1:Row} (p:RlP o E Af k R1 K) (hr:o.rows[k+1]? = some r) (h:RS o (InK E) Af (k+1) r true r1):RlP o E Af (k+1) (R1.set (k+1) r1) K:=by
  have hk:k+1<o.rows.length:=(List.getElem?_eq_some_iff.mp hr).1
  have hl:k+1<R1.length:=p.l1.symm ▸ hk
  refine ⟨(List.length_set ..).trans p.l1,p.lK,fun i h1 h2=>?_,fun i r' b r2 hi hb h2=>?_⟩
  · rw [get_set hl,if_neg (Nat.ne_of_lt h1)]; exact p.same i (Nat.lt_of_succ_lt h1) h2
  · rw [get_set hl] at h2
    split at h2
    · rename_i e; subst e
      obtain rfl:=Option.some.inj (hr.symm.trans hi)
      obtain rfl:=Option.some.inj ((p.same _ (Nat.lt_succ_self k) hk).1.symm.trans hb)
      obtain rfl:=Option.some.inj h2
      exact h
    · exact p.st i r' b r2 hi hb h2
theorem RlP.setK {o:Ob} {E:List (Int × V)} {Af:List Nat} {k:Nat} {R1:List Row} {K:List Bool} {r:Row} (p:RlP o E Af k R1 K) (hr:o.rows[k+1]? = some r) (h:RS o (InK E) Af (k+1) r false r):RlP o E Af (k+1) R1 (K.set (k+1) false):=by
  have hk:k+1<o.rows.length:=(List.getElem?_eq_some_iff.mp hr).1
  have hl:k+1<K.length:=p.lK.symm ▸ hk
  refine ⟨p.l1,(List.length_set ..).trans p.lK,fun i h1 h2=>?_,fun i r' b r2 hi hb h2=>?_⟩
  · rw [get_set hl,if_neg (Nat.ne_of_lt h1)]; exact p.same i (Nat.lt_of_succ_lt h1) h2
  · rw [get_set hl] at hb
    split at hb
    · rename_i e; subst e
      obtain rfl:=Option.some.inj (hr.symm.trans hi)
      obtain rfl:=Option.some.inj (hr.symm.trans ((p.same _ (Nat.lt_succ_self k) hk).2.symm.trans h2))
      obtain rfl:=Option.some.inj hb
      exact h
    · exact p.st i r' b r2 hi hb h2
theorem same_mem {r0 r:Row} {P:Row->Row->Prop} (h:sameF r0 r=true) (k:∀ a c a2,P (.mem .STR a c) (.mem .LDR a2 c)):P r0 r:=by
  rcases h1:rowName r0 == "STR" with uu | uu
  · exact absurd ((same_no1 h1).symm.trans h) nFT
  rcases h2:rowName r == "LDR" with uu | uu
  · exact absurd ((same_no2 h2).symm.trans h) nFT
  revert h
  refine name_STR (P:=fun r0=>sameF r0 r=true->P r0 r) h1 fun a c=>name_LDR (P:=fun r=>sameF (.mem .STR a c) r=true->P (.mem .STR a c) r) h2 fun a2 c2 h=>?_
  obtain rfl:c=c2:=of_decide_eq_true h
  exact k _ _ _
theorem nin_of {D:List (Int × V)} {k:Int} (h:(!(dget D k).isSome)=true):k ∉ keys D:=fun hm=>nTF ((dget_mem.mpr hm).symm.trans (not_e' h))
theorem reload_turn {n:Nat} {H:AH} {A:QA} {Ad:Adr} {o:Ob} {D E:List (Int × V)} {Af:List Nat} {FL:Nat->Prop} {i:Nat} {x:V} {ρ:Env} {H':AH} {Q:PO} (hO:ObjAt H A.a Ad o) (w:WF o) (d:RlD H A) (hD:∀ i ∈ o.fix,(i:Int) ∈ keys D) (hlive:LiveOK o.rows Af FL)
    (hx:(rngL 1 (o.rows.length:Int))[i]? = some x) (h:RlI H A o D E Af i ρ H'):Turn (CN (n+6)) (.one 7) x f_without_reloads_l0 (Body (RlI H A o D E Af (i+1)) Q) ρ H':=by
  obtain ⟨x7,x8,x9,x10,R1,K,rfl,s,p⟩:=h
  obtain ⟨rfl,hi⟩:=rngL_get hx
  have hlen:=w.len
  have hjl:i+1<o.rows.length:=by omega
  have hj:(1:Int)+(i:Int)=((i+1:Nat):Int):=Int.add_comm ..
  have hj2:((i+1:Nat):Int) - 1=(i:Int):=by omega
  rw [hj]
  have hr:o.rows[i+1]? = some o.rows[i+1]:=List.getElem?_eq_getElem hjl
  have hr0:o.rows[i]? = some (o.rows[i]'(Nat.lt_of_succ_lt hjl)):=List.getElem?_eq_getElem _
  have hjM:i+1<100000:=Nat.lt_trans hjl (c40 hlen (by decide))
  have h6:=hO.ext s.e
  have same:∀ x7 x8 x9 x10,RlI H A o D E Af (i+1) (envQ A x7 x8 x9 x10) H':=fun uu uu uu uu=>⟨_,_,_,_,R1,K,rfl,s,p.next⟩
  have pj:∀ {ρ:Env},getV ρ 7=some (.int ((i+1:Nat):Int))->Ev (CN (n+6)) (.bin .sub (.var 7) (.int 1)) ρ H' (.int (i:Int)):=fun h=>by
    have:=ev_bin (op:=.sub) (C:=CN (n+6)) (H:=H') (ev_var h) ev_int (v:=.int (((i+1:Nat):Int) - 1)) rfl
    rwa [hj2] at this
  have nin:∀ {ρ:Env} {e:ME} {m:Nat} {c:Nat} {L:List (Int × V)} {y:Nat},Ev (CN (n+6)) e ρ H' (.int (m:Int))->getV ρ y=some (.ref c)->H' c=some (.di false L)->Ev (CN (n+6)) (.cmp e [.notin] [.var y]) ρ H' (.bool (!(dget L (m:Int)).isSome)):=fun h1 h2 h3=>ev_cmp (op:=.notin) h1 (ev_var h2) (by rw [cm_notin,in_di h3]; rfl)
  refine ⟨_,rfl,r_pair CN_Mono (ev_tup (evs_cons (row_of (h6.ev rfl rfl) (pj rfl) h6.hr hr0 hlen) (evs_cons (row_of (h6.ev rfl rfl) (ev_var rfl) h6.hr hr hlen) evs_nil)) _ ⟨_,_,rfl,r_assign (ev_and3 (nin (ev_var rfl) rfl s.n) (nin (ev_var rfl) rfl s.f) (nin (pj rfl) rfl s.f)) ?_⟩)⟩
  refine r_if CN_Mono (evt_and (evt_c (evt_var rfl rfl) (evt_c (evt_call (evs_cons (ev_var rfl) (evs_cons (ev_var rfl) evs_nil)) same_ev rfl) evt_nil))) (fun hc=>?_) fun hc=>rest_nil (same _ _ _ _)
  obtain ⟨hb,hs⟩:=Bool.and_eq_true_iff.mp hc
  rw [Bool.and_true] at hs
  obtain ⟨hE,hb⟩:=Bool.and_eq_true_iff.mp hb
  have hnE:¬ InK E (i+1):=nin_of hE
  have hnf:i+1 ∉ o.fix:=fun h=>nin_of (Bool.and_eq_true_iff.mp hb).1 (hD _ h)
  have hprev:o.rows[i+1 - 1]? = some (o.rows[i]'(Nat.lt_of_succ_lt hjl)):=hr0
  revert hr hprev
  refine same_mem (P:=fun r0 r=>o.rows[i+1]? = some r->o.rows[i+1 - 1]? = some r0->rest (CN (n+6)) _ _ (setV (setV (setV (setV (envQ A x7 x8 x9 x10) 7 (.int ((i+1:Nat):Int))) 8 (rowV r0)) 9 (rowV r)) 10 _) H') hs fun a1 c a2 hr hprev=>?_
  refine r_if CN_Mono (evt_cmp (at_row (r:=.mem .LDR a2 c) (k:=1) rfl rfl) (at_row (r:=.mem .STR a1 c) (k:=1) rfl rfl) (congrArg some nbeq)) (fun h12=>?_) fun h12=>?_
  · have h12:=of_decide_eq_true h12
    refine r_storeList ev_bool (ev_var rfl) (ev_var rfl) s.k ((List.length_map V.bool).symm ▸ p.lK.symm ▸ hjl) hjM fun H2 m2=>?_
    rw [boolL_set] at m2
    exact rest_nil ⟨_,_,_,_,R1,_,rfl,s.setK d m2,p.setK hr (.inr ⟨a1,c,a2,Nat.succ_pos i,hnE,hnf,hprev,rfl,.inl ⟨rfl,rfl,h12⟩⟩)⟩
  · refine r_if CN_Mono (evt_not (evt_call (evs_cons (ev_sub (ev_var rfl) (ev_var rfl) (sub_nat s.a (hlive.len.symm ▸ hjl) hjM)) (evs_cons ev_glob evs_nil)) is_live_ev rfl)) (fun hl=>?_) fun hl=>rest_nil (same _ _ _ _)
    refine r_storeList (v:=rowV (.reg .MOV a2 0 a1)) (ev_tup (evs_cons ev_str (evs_cons (at_row (r:=.mem .LDR a2 c) (k:=1) rfl rfl) (evs_cons ev_int (evs_cons (at_row (r:=.mem .STR a1 c) (k:=1) rfl rfl) evs_nil))))) (ev_var rfl) (ev_var rfl) s.r ((List.length_map rowV).symm ▸ p.l1.symm ▸ hjl) hjM fun H2 m2=>?_
    rw [<- List.map_set] at m2
    exact rest_nil ⟨_,_,_,_,_,K,rfl,s.setR d m2,p.setR hr (.inr ⟨a1,c,a2,Nat.succ_pos i,hnE,hnf,hprev,rfl,.inr ⟨rfl,rfl,not_e' hl⟩⟩)⟩
end Mine.Wk
end
section
namespace Mine.Wk
open PySem
theorem reloads_spec {n:Nat} {H:AH} {Q:V->AH->Prop} {a:Nat} {A:Adr} {o:Ob} (hO:ObjAt H a A o) (w:WF o)
    (q:∀ a' A' H' R1 K,Ext H H'->RelOK o R1 K->ObjAt H' a' A' (remapO o R1 K)->Q (.ref a') H'):CN (n+7) "without_reloads" [.ref a] H Q:=by
  have hlen:=w.len
  refine call_of rfl rfl (r_assignW CN_Mono (w_call (evs_cons (ev_var rfl) evs_nil) (fixed_spec hO w fun fx H1 D M1 hD=>?_)))
  have h1:=hO.ext M1.e
  refine r_assignW CN_Mono (w_call (evs_cons (ev_var rfl) evs_nil) (entered_spec h1 w fun en H2 E M2 En=>?_))
  have h2:=h1.ext M2.e
  refine r_pair CN_Mono (w_call (evs_cons (h2.ev rfl rfl) evs_nil) (liveness_spec h2.hr hlen w.ok fun bf af H3 Af FL e3 gaf haf hlive=>⟨_,_,rfl,?_⟩))
  have h3:=h2.ext e3
  refine r_new (evn_bi (evs_cons (h3.ev rfl rfl) evs_nil) (list_list h3.hr (by rw [List.length_map]; exact c40' hlen (by decide)))) fun rw H4 N4=>?_
  refine r_assignW CN_Mono (w_fill (n:=o.rows.length) (c40' hlen (by decide)) ev_bool (fun H' e=>len_at rfl (e _ _ N4.g) hlen) fun kp H5 M5=>?_)
  have E3:=M1.e.trans (M2.e.trans e3)
  have E4:=E3.trans N4.e
  have gfx3:=e3 _ _ (M2.e _ _ M1.g)
  have gen3:=e3 _ _ M2.g
  have d:RlD H ⟨a,fx,en,bf,af,rw,kp⟩:=⟨E3.none N4.n,E4.none M5.n,ne_of_none gfx3 N4.n,ne_of_none gen3 N4.n,ne_of_none gaf N4.n,ne_of_none (N4.e _ _ gfx3) M5.n,ne_of_none (N4.e _ _ gen3) M5.n,ne_of_none (N4.e _ _ gaf) M5.n,ne_of_none N4.g M5.n⟩
  have g4:=M5.e _ _ N4.g
  have hb:(1:Int)<=1000/\(-1000:Int)<=1/\(o.rows.length:Int)<=1000/\(-1000:Int)<=o.rows.length:=⟨by decide,by decide,Int.ofNat_le.mpr (c40' hlen (by decide)),Int.le_trans (by decide) (Int.natCast_nonneg _)⟩
  refine r_for CN_Mono (ev_bi (evs_cons ev_int (evs_cons (len_at rfl g4 hlen) evs_nil)) (range2 hb)) keys_rng iter_rng (RlI H ⟨a,fx,en,bf,af,rw,kp⟩ o D E Af) (fun uu uu uu uu=>still_rng) (fun i x ρ H' hx h=>reload_turn hO w d hD hlive hx h)
    ⟨none,none,none,none,o.rows,List.replicate o.rows.length true,rfl,⟨E4.trans M5.e,M5.e _ _ (N4.e _ _ gfx3),M5.e _ _ (N4.e _ _ gen3),M5.e _ _ (N4.e _ _ gaf),g4,by rw [M5.g,List.map_replicate]⟩,⟨rfl,List.length_replicate,fun i h1 h2=>⟨by rw [List.getElem?_replicate,if_pos h2],rfl⟩,fun i r b r1 h1 h2 h3=>.inl ⟨?_,Option.some.inj (h3.symm.trans h1)⟩⟩⟩ ?_
  · rw [List.getElem?_replicate] at h2
    split at h2
    · exact (Option.some.inj h2).symm
    · exact nomatch h2
  rintro ρ H' ⟨x7,x8,x9,x10,R1,K,rfl,s,p⟩
  refine r_retW (w_call (evs_cons (ev_var rfl) (evs_cons (ev_var rfl) (evs_cons (ev_var rfl) evs_nil))) (remap_spec (hO.ext s.e) w s.r s.k p.l1 (p.lK.trans p.l1.symm) (fun i c off hi=>?_) fun a' A' H7 e7 h7=>q a' A' H7 R1 K (s.e.trans e7) ⟨p.l1,p.lK,Af,FL,InK E,hlive,En.b,En.g,En.e,fun i c off h1 h2=>?_,p.st⟩ h7))
  · have hil:i<o.rows.length:=p.l1 ▸ (List.getElem?_eq_some_iff.mp hi).1
    have hr:o.rows[i]? = some o.rows[i]:=List.getElem?_eq_getElem hil
    have hb:K[i]? = some (K[i]'(p.lK.symm ▸ hil)):=List.getElem?_eq_getElem _
    rcases p.st i _ _ _ hr hb hi with ⟨uu,h⟩ | ⟨uu,uu,uu,uu,uu,uu,uu,h0,(⟨uu,h,uu⟩ | ⟨uu,h,uu⟩)⟩
    · have:=w.jumps i c off (hr.trans (congrArg some h.symm))
      rw [p.l1]; exact this
    · exact nomatch h.trans h0
    · exact nomatch h
  · have:=En.t i c off h1 h2
    obtain ⟨t,ht⟩:=Int.eq_ofNat_of_zero_le (w.tgt i c off h1).1
    rw [ht] at this ⊢; exact this
end Mine.Wk
end
section
namespace Mine.Wk
open PySem
noncomputable abbrev Marks:=Bool × Bool × Bool × Bool
structure M where
  regs:List Int
  cells:List (Int × V)
  pc:Nat
  marks:Marks
inductive AOp | MOV | ADD | SUB | IOR | LSL
noncomputable def holdsF (c:Cnd) (m:Marks):Bool:=match c with
  | .AL=>true
  | .EQ=>m.2.1
  | .NE=>!m.2.1
  | .LT=>m.1 != m.2.2.2
  | .GE=>!(m.1 != m.2.2.2)
  | .NV=>false
  | .HI=>!(m.2.2.1 || m.2.1)
noncomputable def plusF (w:Int):Int:=if w ≥ 2147483648 then w - 4294967296 else w
noncomputable def inS (x:Int):Bool:=decide (-2147483648<=x) && decide (x<2147483648)
noncomputable def foundF (op:AOp) (x y:Int):Int:=match op with
  | .MOV=>y
  | .ADD=>x+y
  | .SUB=>x - y
  | .IOR=>Spec.bitOr x y
  | .LSL=>x*2 ^ (y.fmod 32).toNat
noncomputable def carryF (op:AOp) (x y:Int):Bool:=match op with
  | .ADD=>decide (x+y ≥ 4294967296)
  | .SUB=>decide (x<y)
  | _=>false
noncomputable def overF (op:AOp) (x y:Int):Bool:=match op with
  | .ADD=>!inS (plusF x+plusF y)
  | .SUB=>!inS (plusF x - plusF y)
  | _=>false
noncomputable def actF (op:AOp) (x y:Int):Int × Marks :=
  let f:=(foundF op x y).fmod 4294967296
  (f,decide (f ≥ 2147483648),decide (f=0),carryF op x y,overF op x y)
noncomputable def ROp.a:ROp->AOp | .MOV=>.MOV | .ADD=>.ADD | .SUB=>.SUB | .IOR=>.IOR
noncomputable def IOp.a:IOp->AOp | .ADDI=>.ADD | .SUBI=>.SUB | .MOVI=>.MOV | .IORI=>.IOR | .LSLI=>.LSL
noncomputable def cellI (C:List (Int × V)) (k:Int):Int:=match dget C k with
  | some (.int i)=>i
  | _=>0
noncomputable def gotF (C:List (Int × V)) (a:Int):Int:=cellI C a*1+(cellI C (a+1)*256+(cellI C (a+2)*65536+(cellI C (a+3)*16777216+0)))
noncomputable def byteF (v:Int) (k:Nat):Int:=(v.fdiv (256 ^ k)).fmod 256
noncomputable def putF (C:List (Int × V)) (a v:Int):Nat->List (Int × V)
  | 0=>C
  | k+1=>dset (putF C a v k) (a+k) (.int (byteF v k))
noncomputable def reg (m:M) (i:Nat):Int:=m.regs.getD i 0
noncomputable def stepF (R:List Row) (m:M):M × Option (Int × Int):=match R[m.pc]? with
  | some (.reg op a b c)=>({ m with pc:=m.pc+1,regs:=m.regs.set a (actF op.a (reg m b) (reg m c)).1,marks:=(actF op.a (reg m b) (reg m c)).2 },Option.none)
  | some (.imm op a b c)=>({ m with pc:=m.pc+1,regs:=m.regs.set a (actF op.a (reg m b) (c.fmod 4294967296)).1,marks:=(actF op.a (reg m b) (c.fmod 4294967296)).2 },Option.none)
  | some (.mem .LDR a c)=>({ m with pc:=m.pc+1,regs:=m.regs.set a (gotF m.cells c) },Option.none)
  | some (.mem .STR a c)=>({ m with pc:=m.pc+1,cells:=putF m.cells c (reg m a) 4 },Option.none)
  | some (.mem .STB a c)=>({ m with pc:=m.pc+1,cells:=putF m.cells c (reg m a) 1 },Option.none)
  | some (.br c off)=>({ m with pc:=if holdsF c m.marks=true then ((m.pc:Int)+1+off).toNat else m.pc+1 },Option.none)
  | some (.trap c n p)=>({ m with pc:=m.pc+1 },if holdsF c m.marks=true then some (n,p) else Option.none)
  | some (.ret c)=>({ m with pc:=if holdsF c m.marks=true then 5000 else m.pc+1 },Option.none)
  | Option.none=>(m,Option.none)
inductive Outc
  | trap (n p:Int) (kept:List Int)
  | ret (kept:List Int) (r0 r11 r13 r14:Int)
noncomputable def keptF (C:List (Int × V)):List Int:=(List.range 20).map fun k:Nat=>cellI C (60+k)
noncomputable def runF (R:List Row):Nat->M->Option Outc
  | 0,_=>Option.none
  | n+1,m=>match (stepF R m).2 with
    | some (a,b)=>some (.trap a b (keptF (stepF R m).1.cells))
    | Option.none=>if 5000<=(stepF R m).1.pc then some (.ret (keptF (stepF R m).1.cells) (reg (stepF R m).1 0) (reg (stepF R m).1 11) (reg (stepF R m).1 13) (reg (stepF R m).1 14)) else runF R n (stepF R m).1
structure Okm (m:M):Prop where
  len:m.regs.length=16
  rng:∀ (i:Nat) v,m.regs[i]? = some v->0<=v/\v<4294967296
  r13:m.regs[13]? = some 0
  r15:m.regs[15]? = some 5000
  cel:∀ k v,dget m.cells k=some v->∃ i:Int,v = .int i/\0<=i/\i<256
theorem Okm.pc {m:M} (h:Okm m) (p:Nat) (mk:Marks):Okm { m with pc:=p,marks:=mk }:=⟨h.len,h.rng,h.r13,h.r15,h.cel⟩
theorem Okm.reg {m:M} (h:Okm m) {i:Nat} (hi:i<16):m.regs[i]? = some (reg m i)/\0<=reg m i/\reg m i<4294967296:=by
  have h1:m.regs[i]? = some (m.regs[i]'(by rw [h.len]; exact hi)):=List.getElem?_eq_getElem _
  have h2:Mine.Wk.reg m i=m.regs[i]'(by rw [h.len]; exact hi):=by rw [Mine.Wk.reg,List.getD_eq_getElem?_getD,h1]; rfl
  rw [h2]
  exact ⟨h1,h.rng _ _ h1⟩
theorem Okm.set {m:M} (h:Okm m) {a:Nat} {v:Int} (ha:a<4) (h0:0<=v) (h1:v<4294967296) (p:Nat) (mk:Marks):Okm { m with pc:=p,marks:=mk,regs:=m.regs.set a v }:=by
  refine ⟨by simp [h.len],fun i w hw=>?_,?_,?_,h.cel⟩
  · rw [List.getElem?_set] at hw
    split at hw
    · split at hw
      · cases hw; exact ⟨h0,h1⟩
      · cases hw
    · exact h.rng i w hw
  · show (m.regs.set a v)[13]? = _
    rw [List.getElem?_set,if_neg (by omega)]; exact h.r13
  · show (m.regs.set a v)[15]? = _
    rw [List.getElem?_set,if_neg (by omega)]; exact h.r15
theorem dget_dsetI {l:List (Int × V)} {k x:Int} {v:V}:dget (dset l k v) x=if k=x then some v else dget l x:=by
  induction l with
  | nil=>simp [dset,dget]
  | cons p r ih=>
    obtain ⟨k',w⟩:=p
    simp only [dset]
    split
    · rename_i e; subst e
      simp only [dget]; split <;> rfl
    · rename_i hne
      simp only [dget,ih]
      split
      · rename_i e; subst e; rw [if_neg (fun e=>hne e.symm)]
      · rfl
theorem byte_rng {v:Int} {k:Nat}:0<=byteF v k/\byteF v k<256:=by
  unfold byteF
  exact ⟨Int.fmod_nonneg_of_pos _ (by decide),Int.fmod_lt_of_pos _ (by decide)⟩
theorem put_cel {C:List (Int × V)} {a v:Int} (h:∀ k v,dget C k=some v->∃ i:Int,v = .int i/\0<=i/\i<256):∀ n k w,dget (putF C a v n) k=some w->∃ i:Int,w = .int i/\0<=i/\i<256
  | 0,k,w,hw=>h k w hw
  | n+1,k,w,hw=>by
    rw [putF,dget_dsetI] at hw
    split at hw
    · cases hw; exact ⟨_,rfl,byte_rng⟩
    · exact put_cel h n k w hw
theorem cell_dset {C:List (Int × V)} {k x i:Int}:cellI (dset C k (.int i)) x=if k=x then i else cellI C x:=by
  unfold cellI
  rw [dget_dsetI]
  by_cases e:k=x
  · simp only [if_pos e]
  · simp only [if_neg e]
theorem got_put {C:List (Int × V)} {a v:Int} (h0:0<=v) (h1:v<4294967296):gotF (putF C a v 4) a=v:=by
  have b0:byteF v 0=v % 256:=by simp [byteF,Int.fmod_eq_emod_of_nonneg,Int.fdiv_eq_ediv_of_nonneg]
  have b1:byteF v 1=v / 256 % 256:=by simp [byteF,Int.fmod_eq_emod_of_nonneg,Int.fdiv_eq_ediv_of_nonneg]
  have b2:byteF v 2=v / 65536 % 256:=by simp [byteF,Int.fmod_eq_emod_of_nonneg,Int.fdiv_eq_ediv_of_nonneg]
  have b3:byteF v 3=v / 16777216 % 256:=by simp [byteF,Int.fmod_eq_emod_of_nonneg,Int.fdiv_eq_ediv_of_nonneg]
  simp only [gotF,putF,cell_dset,b0,b1,b2,b3]
  simp
  omega
theorem got_rng {C:List (Int × V)} {a:Int} (h:∀ k v,dget C k=some v->∃ i:Int,v = .int i/\0<=i/\i<256):0<=gotF C a/\gotF C a<4294967296:=by
  have hc:∀ k,0<=cellI C k/\cellI C k<256:=by
    intro k
    unfold cellI
    cases e:dget C k with
    | none=>simp
    | some v=>
      obtain ⟨i,rfl,h1,h2⟩:=h k v e
      exact ⟨h1,h2⟩
  have h0:=hc a
  have h1:=hc (a+1)
  have h2:=hc (a+2)
  have h3:=hc (a+3)
  unfold gotF
  omega
theorem act_rng {op:AOp} {x y:Int}:0<=(actF op x y).1/\(actF op x y).1<4294967296 :=
  ⟨Int.fmod_nonneg_of_pos _ (by decide),Int.fmod_lt_of_pos _ (by decide)⟩
theorem Okm.step {R:List Row} {m:M} (h:Okm m) (ok:∀ r,R[m.pc]? = some r->rOk r):Okm (stepF R m).1:=by
  unfold stepF
  cases hr:R[m.pc]? with
  | none=>exact h
  | some r=>
    have:=ok r hr
    rcases r with ⟨op,a,b,c⟩ | ⟨op,a,b,c⟩ | ⟨uu | uu | uu,a,c⟩ | ⟨c,off⟩ | ⟨c,en,ep⟩ | ⟨c⟩
    · exact h.set this.1 act_rng.1 act_rng.2 _ _
    · exact h.set this.1 act_rng.1 act_rng.2 _ _
    · exact h.set this.1 (got_rng h.cel).1 (got_rng h.cel).2 _ m.marks
    · exact ⟨h.len,h.rng,h.r13,h.r15,put_cel h.cel 4⟩
    · exact ⟨h.len,h.rng,h.r13,h.r15,put_cel h.cel 1⟩
    · exact h.pc _ m.marks
    · exact h.pc _ m.marks
    · exact h.pc _ m.marks
theorem run_mono {R:List Row}:∀ n m out,runF R n m=some out->runF R (n+1) m=some out
  | 0,m,out,h=>by cases h
  | n+1,m,out,h=>by
    rw [runF] at h ⊢
    cases h1:(stepF R m).2 with
    | some p=>rw [h1] at h; exact h
    | none=>
      rw [h1] at h
      simp only at h ⊢
      split at h
      · rename_i h2; rw [if_pos h2]; exact h
      · rename_i h2; rw [if_neg h2]; exact run_mono n _ out h
theorem holds_dep {c:Cnd} {m m':Marks} (h:c ≠ .AL/\c ≠ .NV->m'=m):holdsF c m'=holdsF c m:=by
  cases c <;> first | rfl | (rw [h (by decide)])
end Mine.Wk
end
section
namespace Mine.Wk
open PySem
theorem mvUpto_get {K:List Bool} {R:List Row} {i:Nat} {r:Row} (hr:R[i]? = some r) (hk:K[i]? = some true):∀ k,i<k->k<=R.length->R.length=K.length->(mvUpto K R k)[cnt K i]? = some (mvR K i r)
  | 0,h,_,_=>by omega
  | k+1,h,h2,h3=>by
    have hl:=mvUpto_len h3 k (by omega)
    rw [mvUpto]
    rcases Nat.lt_or_ge i k with h1 | h1
    · have hlt:cnt K i<cnt K k:=by
        have h4:=cnt_succ hk
        have h5:=cnt_mono (K:=K) (i:=i+1) (j:=k) (by omega)
        simp at h4; omega
      rw [List.getElem?_append_left (by omega)]
      exact mvUpto_get hr hk k h1 (by omega) h3
    · have:i=k:=by omega
      subst this
      rw [List.getElem?_append_right (by omega),hl,mv1_of hr hk,Nat.sub_self]
      rfl
theorem mvUpto_inv {K:List Bool} {R:List Row} {j:Nat} {r':Row}:∀ k,k<=R.length->R.length=K.length->(mvUpto K R k)[j]? = some r'->∃ i r,i<k/\R[i]? = some r/\K[i]? = some true/\cnt K i=j/\r'=mvR K i r
  | 0,_,_,h=>by simp [mvUpto] at h
  | k+1,h2,h3,h=>by
    have hl:=mvUpto_len h3 k (by omega)
    rw [mvUpto] at h
    rcases Nat.lt_or_ge j (cnt K k) with h1 | h1
    · rw [List.getElem?_append_left (by omega)] at h
      obtain ⟨i,r,h4,h5⟩:=mvUpto_inv k (by omega) h3 h
      exact ⟨i,r,by omega,h5⟩
    · rw [List.getElem?_append_right (by omega),hl] at h
      have hr:R[k]? = some (R[k]'(by omega)):=List.getElem?_eq_getElem _
      have hkk:K[k]? = some (K[k]'(by omega)):=List.getElem?_eq_getElem _
      rw [mv1_of hr hkk] at h
      rcases hb:K[k]'(by omega) with uu | uu <;> rw [hb] at h
      · exact nomatch h
      · rcases hj:j - cnt K k with uu | m <;> rw [hj] at h
        · exact ⟨k,_,Nat.lt_succ_self k,hr,by rw [hkk,hb],Nat.le_antisymm h1 (Nat.sub_eq_zero_iff_le.mp hj),(Option.some.inj h).symm⟩
        · exact nomatch h
structure PassOK (o:Ob) (R1:List Row) (K:List Bool):Prop where
  len1:R1.length=o.rows.length
  lenK:K.length=o.rows.length
  ok1:∀ (i:Nat) r,R1[i]? = some r->rOk r
  falls1:∀ (i:Nat) r,R1[i]? = some r->K[i]? = some true->fallsF r=true->i+1<o.rows.length/\cnt K (i+1)<cnt K o.rows.length
  tgt1:∀ (i:Nat) c off,R1[i]? = some (.br c off)->0<=(i:Int)+1+off/\(i:Int)+1+off<=o.rows.length
  tgt2:∀ (i:Nat) c off,R1[i]? = some (.br c off)->K[i]? = some true->c ≠ .NV->(i:Int)+1+off<o.rows.length/\cnt K ((i:Int)+1+off).toNat<cnt K o.rows.length
  fix1:∀ i ∈ o.fix,K[i]? = some true->R1[i]? = o.rows[i]?
  body1:cnt K o.body<cnt K o.rows.length
  go1:cnt K o.go<cnt K o.rows.length
  ent1:∀ e ∈ o.ent,cnt K e<cnt K o.rows.length
theorem fallsF_mv {K:List Bool} {i:Nat} {r:Row}:fallsF (mvR K i r)=fallsF r:=by cases r <;> rfl
theorem wf_remap {o:Ob} {R1:List Row} {K:List Bool} (w:WF o) (p:PassOK o R1 K):WF (remapO o R1 K):=by
  have hlen:=w.len
  have h1:=p.len1
  have h2:=p.lenK
  have hl:(mvUpto K R1 R1.length).length=cnt K o.rows.length:=by rw [mvUpto_len (by omega) _ (Nat.le_refl _),h1]
  have hle:cnt K o.rows.length<=o.rows.length:=cnt_le
  have inv:∀ (j:Nat) r',(mvUpto K R1 R1.length)[j]? = some r'->∃ i r,i<R1.length/\R1[i]? = some r/\K[i]? = some true/\cnt K i=j/\r'=mvR K i r:=fun j r' h=>mvUpto_inv _ (Nat.le_refl _) (by omega) h
  refine ⟨by show (mvUpto K R1 R1.length).length<=40; omega,fun j r' h=>?_,by show cnt K o.body<(mvUpto K R1 R1.length).length; rw [hl]; exact p.body1,by show cnt K o.go<(mvUpto K R1 R1.length).length; rw [hl]; exact p.go1,fun e he=>?_,?_,?_,fun j hj=>?_,fun j r' h hf=>?_,fun j c off h=>?_⟩
  · obtain ⟨i,r,h3,h4,h5,h6,rfl⟩:=inv j r' h
    have:=p.ok1 i r h4
    cases r <;> exact this
  · obtain ⟨e',he',rfl⟩:=List.mem_map.mp he
    show cnt K e'<(mvUpto K R1 R1.length).length
    rw [hl]; exact p.ent1 e' he'
  · show (o.ent.map (cnt K)).length<=10
    simpa using w.entl
  · show ((o.fix.filter _).map (cnt K)).length<=40
    rw [List.length_map]
    exact Nat.le_trans (List.length_filter_le _ _) w.fixl
  · obtain ⟨i,hi,rfl⟩:=List.mem_map.mp hj
    obtain ⟨hi1,hi2⟩:=List.mem_filter.mp hi
    obtain ⟨op,a,c,hr,hop⟩:=w.fix i hi1
    have hil:=w.fixlt hi1
    have hk:K[i]? = some true:=by
      rw [List.getD_eq_getElem?_getD,List.getElem?_eq_getElem (by omega)] at hi2
      rw [List.getElem?_eq_getElem (by omega)]
      simp at hi2; rw [hi2]
    have hr1:=p.fix1 i hi1 hk
    rw [hr] at hr1
    exact ⟨op,a,c,mvUpto_get hr1 hk _ (by omega) (Nat.le_refl _) (by omega),hop⟩
  · obtain ⟨i,r,h3,h4,h5,h6,rfl⟩:=inv j r' h
    rw [fallsF_mv] at hf
    have h7:=(p.falls1 i r h4 h5 hf).2
    have h8:=cnt_succ h5
    simp at h8
    show j+1<(mvUpto K R1 R1.length).length
    omega
  · obtain ⟨i,r,h3,h4,h5,h6,h7⟩:=inv j _ h
    cases r with
    | br c' off'=>
      simp only [mvR] at h7
      cases h7
      have ht1:=p.tgt1 i c off' h4
      have hm:=cnt_mono (K:=K) (i:=((i:Int)+1+off').toNat) (j:=o.rows.length) (by omega)
      show 0<=(j:Int)+1+_/\(j:Int)+1+_<=((mvUpto K R1 R1.length).length:Int)/\(c ≠ .NV->(j:Int)+1+_<((mvUpto K R1 R1.length).length:Int))
      rw [hl]
      refine ⟨by omega,by omega,fun hc=>?_⟩
      have:=(p.tgt2 i c off' h4 h5 hc).2
      omega
    | _=>cases h7
noncomputable def Imp (o o':Ob):Prop:=∃ pl:Nat->Nat,o'.body=pl o.body/\o'.go=pl o.go/\o'.ent=o.ent.map pl/\o'.rows.length<=o.rows.length /\
  ∀ s,s=o.body \/ s=o.go \/ s ∈ o.ent->∀ (m:M) n out,Okm m->runF o.rows n { m with pc:=s } = some out->runF o'.rows n { m with pc:=pl s } = some out
theorem Imp.trans {o o' o'':Ob} (h:Imp o o') (h':Imp o' o''):Imp o o'':=by
  obtain ⟨pl,hb,hg,he,hl,hr⟩:=h
  obtain ⟨pl',hb',hg',he',hl',hr'⟩:=h'
  refine ⟨fun s=>pl' (pl s),by rw [hb',hb],by rw [hg',hg],by rw [he',he,List.map_map]; rfl,by omega,fun s hs m n out hm h=>?_⟩
  refine hr' (pl s) ?_ m n out hm (hr s hs m n out hm h)
  rcases hs with h | h | h
  · exact .inl (by rw [hb,h])
  · exact .inr (.inl (by rw [hg,h]))
  · exact .inr (.inr (by rw [he]; exact List.mem_map.mpr ⟨s,h,rfl⟩))
theorem Imp.rfl {o:Ob}:Imp o o:=⟨id,by rfl,by rfl,by simp,Nat.le_refl _,fun uu uu uu uu uu uu h=>h⟩
theorem succ_falls {n i:Nat} {r:Row} (hf:fallsF r=true) (hi:i+1<n):(i:Int)+1 ∈ succU n i r:=by
  have h:(i:Int)+1 ∈ succ1 n i r:=succ1_mem.mpr ⟨hf,Int.ofNat_lt.mpr hi,rfl⟩
  rcases r with uu | uu | uu | uu | uu | uu <;> first | exact h | exact succU_br.mpr (.inl h)
theorem succ_jump {n i:Nat} {c:Cnd} {off:Int} (hc:c ≠ .NV) (h0:0<=(i:Int)+1+off) (h1:(i:Int)+1+off<n):(i:Int)+1+off ∈ succU n i (.br c off):=succU_br.mpr (.inr ⟨hc,h0,h1,rfl⟩)
structure Simh (o:Ob) (R1:List Row) (K:List Bool) (FL:Nat->Prop) (J:M->Prop):Prop where
  ok:∀ m,J m->Okm m
  lt:∀ m,J m->m.pc<o.rows.length
  next:∀ m,J m->(stepF o.rows m).2=Option.none->(stepF o.rows m).1.pc<5000->J (stepF o.rows m).1
  tests:∀ (i:Nat) r,o.rows[i]? = some r->testsF r=true->FL i
  thru:∀ (i:Nat) r t,o.rows[i]? = some r->setsF r=false->t ∈ succU o.rows.length i r->FL t.toNat->FL i
  kept:∀ m r,J m->o.rows[m.pc]? = some r->K[m.pc]? = some true->R1[m.pc]? = some r \/
    ∃ a c a2,r = .mem .LDR a2 c/\R1[m.pc]? = some (.reg .MOV a2 0 a)/\a<4/\gotF m.cells c=reg m a /\ ¬ FL (m.pc+1)
  drop:∀ m r,J m->o.rows[m.pc]? = some r->K[m.pc]? = some false->∃ mk,stepF o.rows m=({ m with pc:=m.pc+1,marks:=mk },Option.none)/\(FL (m.pc+1)->mk=m.marks/\FL m.pc)
theorem step_reg {R:List Row} {m:M} {op:ROp} {a b c:Nat} (hr:R[m.pc]? = some (.reg op a b c)):stepF R m=({ m with pc:=m.pc+1,regs:=m.regs.set a (actF op.a (reg m b) (reg m c)).1,marks:=(actF op.a (reg m b) (reg m c)).2 },Option.none):=by simp only [stepF,hr]
theorem step_imm {R:List Row} {m:M} {op:IOp} {a b:Nat} {c:Int} (hr:R[m.pc]? = some (.imm op a b c)):stepF R m=({ m with pc:=m.pc+1,regs:=m.regs.set a (actF op.a (reg m b) (c.fmod 4294967296)).1,marks:=(actF op.a (reg m b) (c.fmod 4294967296)).2 },Option.none):=by simp only [stepF,hr]
theorem step_ldr {R:List Row} {m:M} {a:Nat} {c:Int} (hr:R[m.pc]? = some (.mem .LDR a c)):stepF R m=({ m with pc:=m.pc+1,regs:=m.regs.set a (gotF m.cells c) },Option.none):=by simp only [stepF,hr]
theorem step_str {R:List Row} {m:M} {a:Nat} {c:Int} (hr:R[m.pc]? = some (.mem .STR a c)):stepF R m=({ m with pc:=m.pc+1,cells:=putF m.cells c (reg m a) 4 },Option.none):=by simp only [stepF,hr]
theorem step_stb {R:List Row} {m:M} {a:Nat} {c:Int} (hr:R[m.pc]? = some (.mem .STB a c)):stepF R m=({ m with pc:=m.pc+1,cells:=putF m.cells c (reg m a) 1 },Option.none):=by simp only [stepF,hr]
theorem step_br {R:List Row} {m:M} {c:Cnd} {off:Int} (hr:R[m.pc]? = some (.br c off)):stepF R m=({ m with pc:=if holdsF c m.marks=true then ((m.pc:Int)+1+off).toNat else m.pc+1 },Option.none):=by simp only [stepF,hr]
theorem skip_sim {o:Ob} {R1:List Row} {K:List Bool} {FL:Nat->Prop} {J:M->Prop} (w:WF o) (p:PassOK o R1 K) (s:Simh o R1 K FL J) :
    ∀ n m m' out,J m->m'.regs=m.regs->m'.cells=m.cells->m'.pc=cnt K m.pc->(FL m.pc->m'.marks=m.marks)->runF o.rows n m=some out->runF (mvUpto K R1 R1.length) n m'=some out:=by
  have hlen:=w.len
  have hl1:=p.len1
  have hlK:=p.lenK
  have l5:∀ {i:Nat},i<=o.rows.length->¬ 5000<=i:=fun h z=>absurd (Nat.le_trans z (Nat.le_trans h hlen)) (by decide)
  intro n
  induction n with
  | zero=>intro m m' out uu uu uu uu uu h; cases h
  | succ n ih=>
    intro m m' out hJ hregs hcells hpc hmk hrun
    have hlt:=s.lt m hJ
    obtain ⟨r,hr⟩:∃ r,o.rows[m.pc]? = some r:=⟨o.rows[m.pc],List.getElem?_eq_getElem hlt⟩
    obtain ⟨b,hb⟩:∃ b,K[m.pc]? = some b:=⟨_,List.getElem?_eq_getElem (hlK.symm ▸ hlt)⟩
    have hcle:∀ i,cnt K i<=i:=fun i=>cnt_le
    cases b with
    | false=>
      obtain ⟨mk,hst,hfl⟩:=s.drop m r hJ hr hb
      have hJ':=s.next m hJ (by rw [hst]) (by rw [hst]; exact Nat.lt_of_not_le (l5 hlt))
      rw [hst] at hJ'
      rw [runF,hst] at hrun
      simp only at hrun
      rw [if_neg (l5 hlt)] at hrun
      have hc:cnt K (m.pc+1)=cnt K m.pc:=cnt_succ hb
      refine run_mono n m' out (ih _ m' out hJ' hregs hcells (by rw [hpc]; exact hc.symm) (fun hF=>?_) hrun)
      have h1:=hfl hF
      show m'.marks=mk
      rw [h1.1]
      exact hmk h1.2
    | true=>
      have hc:cnt K (m.pc+1)=cnt K m.pc+1:=cnt_succ hb
      have hnx:m'.pc+1=cnt K (m.pc+1):=(congrArg (· + 1) hpc).trans hc.symm
      have go:∀ m1 m1',stepF o.rows m=(m1,Option.none)->stepF (mvUpto K R1 R1.length) m'=(m1',Option.none)->m1.pc<o.rows.length->m1'.regs=m1.regs->m1'.cells=m1.cells->m1'.pc=cnt K m1.pc->(FL m1.pc->m1'.marks=m1.marks) ->
          runF (mvUpto K R1 R1.length) (n+1) m'=some out:=by
        intro m1 m1' h1 h2 h3 h4 h5 h6 h7
        have hJ1:=s.next m hJ (by rw [h1]) (by rw [h1]; exact Nat.lt_of_not_le (l5 (Nat.le_of_lt h3)))
        rw [runF,h1] at hrun
        simp only at hrun
        rw [if_neg (l5 (Nat.le_of_lt h3))] at hrun
        rw [h1] at hJ1
        rw [runF,h2]
        simp only
        rw [if_neg (l5 (h6 ▸ Nat.le_trans (hcle m1.pc) (Nat.le_of_lt h3)))]
        exact ih m1 m1' out hJ1 h4 h5 h6 h7 hrun
      rcases s.kept m r hJ hr hb with hr1 | ⟨a,c,a2,rfl,hr1,ha,hgot,hnF⟩
      · have hr':=mvUpto_get hr1 hb R1.length (hl1.symm ▸ hlt) (Nat.le_refl _) (hl1.trans hlK.symm)
        rw [<- hpc] at hr'
        have falls:fallsF r=true->m.pc+1<o.rows.length:=fun hf=>(p.falls1 _ r hr1 hb hf).1
        have thruN:fallsF r=true->setsF r=false->FL (m.pc+1)->FL m.pc:=fun hf hs hF=>s.thru m.pc r _ hr hs (succ_falls hf (falls hf)) (by simpa using hF)
        have hregE:∀ i,reg m' i=reg m i:=fun i=>by rw [reg,reg,hregs]
        rcases r with ⟨op,a,b,c⟩ | ⟨op,a,b,c⟩ | ⟨op,a,c⟩ | ⟨c,off⟩ | ⟨c,en,ep⟩ | ⟨c⟩
        · refine go _ _ (step_reg hr) (step_reg hr') (falls rfl) ?_ ?_ ?_ ?_
          · simp only [hregE,hregs]
          · simp only [hcells]
          · exact hnx
          · intro uu; simp only [hregE]
        · refine go _ _ (step_imm hr) (step_imm hr') (falls rfl) ?_ ?_ ?_ ?_
          · simp only [hregE,hregs]
          · simp only [hcells]
          · exact hnx
          · intro uu; simp only [hregE]
        · cases op
          · refine go _ _ (step_ldr hr) (step_ldr hr') (falls rfl) ?_ ?_ ?_ ?_
            · simp only [hcells,hregs]
            · simp only [hcells]
            · exact hnx
            · intro hF; exact hmk (thruN rfl rfl hF)
          · refine go _ _ (step_str hr) (step_str hr') (falls rfl) ?_ ?_ ?_ ?_
            · simp only [hregs]
            · simp only [hcells,hregE]
            · exact hnx
            · intro hF; exact hmk (thruN rfl rfl hF)
          · refine go _ _ (step_stb hr) (step_stb hr') (falls rfl) ?_ ?_ ?_ ?_
            · simp only [hregs]
            · simp only [hcells,hregE]
            · exact hnx
            · intro hF; exact hmk (thruN rfl rfl hF)
        · have hh:holdsF c m'.marks=holdsF c m.marks:=holds_dep fun h=>hmk (s.tests _ _ hr (by simp [testsF,h]))
          have ht1:=p.tgt1 m.pc c off hr1
          have hr'':(mvUpto K R1 R1.length)[m'.pc]? = some (.br c ((cnt K ((m.pc:Int)+1+off).toNat:Int) - (cnt K m.pc:Int) - 1)):=hr'
          cases hv:holdsF c m.marks
          · have hAL:c ≠ .AL:=by rintro rfl; cases hv
            have hf:fallsF (.br c off)=true:=by simp [fallsF,hAL]
            refine go { m with pc:=m.pc+1 } { m' with pc:=m'.pc+1 } (by simp [stepF,hr,hv]) (by simp [stepF,hr'',hh,hv]) (falls hf) hregs hcells ?_ ?_
            · exact hnx
            · intro hF; exact hmk (thruN hf rfl hF)
          · have hNV:c ≠ .NV:=by rintro rfl; cases hv
            have ht2:=p.tgt2 m.pc c off hr1 hb hNV
            refine go { m with pc:=((m.pc:Int)+1+off).toNat } { m' with pc:=((m'.pc:Int)+1+((cnt K ((m.pc:Int)+1+off).toNat:Int) - (cnt K m.pc:Int) - 1)).toNat } (by simp [stepF,hr,hv]) (by simp only [stepF,hr'',hh,hv,if_true]) (by show ((m.pc:Int)+1+off).toNat<_; omega) hregs hcells ?_ ?_
            · show ((m'.pc:Int)+1+_).toNat=_
              rw [hpc]; show _=cnt K ((m.pc:Int)+1+off).toNat; omega
            · intro hF; exact hmk (s.thru m.pc _ _ hr rfl (succ_jump hNV ht1.1 ht2.1) hF)
        · have hh:holdsF c m'.marks=holdsF c m.marks:=holds_dep fun h=>hmk (s.tests _ _ hr (by simp [testsF,h]))
          cases hv:holdsF c m.marks
          · have hAL:c ≠ .AL:=by rintro rfl; cases hv
            have hf:fallsF (.trap c en ep)=true:=by simp [fallsF,hAL]
            refine go { m with pc:=m.pc+1 } { m' with pc:=m'.pc+1 } (by simp [stepF,hr,hv]) (by simp [stepF,hr',mvR,hh,hv]) (falls hf) hregs hcells ?_ ?_
            · exact hnx
            · intro hF; exact hmk (thruN hf rfl hF)
          · have h1:stepF o.rows m=({ m with pc:=m.pc+1 },some (en,ep)):=by simp [stepF,hr,hv]
            have h2:stepF (mvUpto K R1 R1.length) m'=({ m' with pc:=m'.pc+1 },some (en,ep)):=by simp [stepF,hr',mvR,hh,hv]
            rw [runF,h1] at hrun
            rw [runF,h2]
            simp only at hrun ⊢
            rw [hcells]; exact hrun
        · have hh:holdsF c m'.marks=holdsF c m.marks:=holds_dep fun h=>hmk (s.tests _ _ hr (by simp [testsF,h]))
          cases hv:holdsF c m.marks
          · have hAL:c ≠ .AL:=by rintro rfl; cases hv
            have hf:fallsF (.ret c)=true:=by simp [fallsF,hAL]
            refine go { m with pc:=m.pc+1 } { m' with pc:=m'.pc+1 } (by simp [stepF,hr,hv]) (by simp [stepF,hr',mvR,hh,hv]) (falls hf) hregs hcells ?_ ?_
            · exact hnx
            · intro hF; exact hmk (thruN hf rfl hF)
          · have h1:stepF o.rows m=({ m with pc:=5000 },Option.none):=by simp [stepF,hr,hv]
            have h2:stepF (mvUpto K R1 R1.length) m'=({ m' with pc:=5000 },Option.none):=by simp [stepF,hr',mvR,hh,hv]
            rw [runF,h1] at hrun
            rw [runF,h2]
            simp only [Nat.le_refl,if_true] at hrun ⊢
            simp only [reg,hcells,hregs] at hrun ⊢
            exact hrun
      · have hr':=mvUpto_get hr1 hb R1.length (hl1.symm ▸ hlt) (Nat.le_refl _) (hl1.trans hlK.symm)
        rw [<- hpc] at hr'
        have hfall:=(p.falls1 _ _ hr1 hb rfl).1
        have hregE:∀ i,reg m' i=reg m i:=fun i=>by rw [reg,reg,hregs]
        have hok:=(s.ok m hJ).reg (i:=a) (by omega)
        refine go _ _ (step_ldr hr) (step_reg hr') hfall ?_ hcells ?_ ?_
        · simp only [hregE,hregs]
          congr 1
          rw [hgot]
          simp only [actF,foundF,ROp.a]
          rw [Int.fmod_eq_emod_of_nonneg _ (by decide)]
          omega
        · exact hnx
        · intro hF; exact (hnF hF).elim
end Mine.Wk
end
section
namespace Mine.Wk
open PySem
theorem step_kind {o:Ob} {m:M} {r:Row} (hr:o.rows[m.pc]? = some r) (h2:(stepF o.rows m).2=Option.none) (h5:(stepF o.rows m).1.pc<5000) :
    (fallsF r=true/\(stepF o.rows m).1.pc=m.pc+1) \/ ∃ c off,r = .br c off/\c ≠ .NV/\(stepF o.rows m).1.pc=((m.pc:Int)+1+off).toNat:=by
  rcases r with ⟨op,a,b,c⟩ | ⟨op,a,b,c⟩ | ⟨op,a,c⟩ | ⟨c,off⟩ | ⟨c,en,ep⟩ | ⟨c⟩
  · rw [step_reg hr]; exact .inl ⟨rfl,rfl⟩
  · rw [step_imm hr]; exact .inl ⟨rfl,rfl⟩
  · cases op
    · rw [step_ldr hr]; exact .inl ⟨rfl,rfl⟩
    · rw [step_str hr]; exact .inl ⟨rfl,rfl⟩
    · rw [step_stb hr]; exact .inl ⟨rfl,rfl⟩
  · rw [step_br hr]
    cases hv:holdsF c m.marks
    · have hAL:c ≠ .AL:=by rintro rfl; cases hv
      exact .inl ⟨by simp [fallsF,hAL],by simp⟩
    · have hNV:c ≠ .NV:=by rintro rfl; cases hv
      exact .inr ⟨c,off,rfl,hNV,by simp⟩
  · have e:stepF o.rows m=({ m with pc:=m.pc+1 },if holdsF c m.marks=true then some (en,ep) else Option.none):=by simp only [stepF,hr]
    rw [e] at h2 ⊢
    cases hv:holdsF c m.marks
    · have hAL:c ≠ .AL:=by rintro rfl; cases hv
      exact .inl ⟨by simp [fallsF,hAL],rfl⟩
    · rw [hv] at h2; simp at h2
  · have e:stepF o.rows m=({ m with pc:=if holdsF c m.marks=true then 5000 else m.pc+1 },Option.none):=by simp only [stepF,hr]
    rw [e] at h5 ⊢
    cases hv:holdsF c m.marks
    · have hAL:c ≠ .AL:=by rintro rfl; cases hv
      exact .inl ⟨by simp [fallsF,hAL],by simp⟩
    · rw [hv] at h5; simp at h5
theorem step_lt {o:Ob} (w:WF o) {m:M} {r:Row} (hr:o.rows[m.pc]? = some r) (h2:(stepF o.rows m).2=Option.none) (h5:(stepF o.rows m).1.pc<5000):(stepF o.rows m).1.pc<o.rows.length:=by
  rcases step_kind hr h2 h5 with ⟨hf,he⟩ | ⟨c,off,rfl,hc,he⟩
  · rw [he]; exact w.falls _ _ hr hf
  · have:=w.tgt _ _ _ hr
    have:=this.2.2 hc
    rw [he]; omega
theorem rowEx {o:Ob} {m:M} (h:m.pc<o.rows.length):∃ r,o.rows[m.pc]? = some r:=⟨_,List.getElem?_eq_getElem h⟩
noncomputable def J0 (o:Ob) (m:M):Prop:=Okm m/\m.pc<o.rows.length
theorem J0.next {o:Ob} (w:WF o) {m:M} (h:J0 o m) (h2:(stepF o.rows m).2=Option.none) (h5:(stepF o.rows m).1.pc<5000):J0 o (stepF o.rows m).1:=by
  obtain ⟨r,hr⟩:=rowEx h.2
  exact ⟨h.1.step fun r' hr'=>w.ok _ _ hr',step_lt w hr h2 h5⟩
theorem cnt_true {K:List Bool} {p:Nat} (h:K[p]? = some true):cnt K p<cnt K K.length:=by
  have h1:=cnt_succ h
  have h2:=(List.getElem?_eq_some_iff.mp h).1
  have h3:=cnt_mono (K:=K) (i:=p+1) (j:=K.length) (by omega)
  simp at h1; omega
theorem cnt_tail {K:List Bool} (h:∀ i,K[i]? = some false->i+1<K.length):∀ d p,p+d=K.length->0<d->cnt K p<cnt K K.length
  | 0,_,_,h=>by omega
  | d+1,p,hp,_=>by
    have hb:K[p]? = some (K[p]'(by omega)):=List.getElem?_eq_getElem _
    cases e:K[p]'(by omega)
    · rw [e] at hb
      have h1:=h p hb
      have h2:=cnt_succ hb
      simp at h2
      have:=cnt_tail h d (p+1) (by omega) (by omega)
      omega
    · rw [e] at hb; exact cnt_true hb
theorem cnt_lt {K:List Bool} (h:∀ i,K[i]? = some false->i+1<K.length) {p:Nat} (hp:p<K.length):cnt K p<cnt K K.length:=cnt_tail h (K.length - p) p (by omega) (by omega)
theorem passOK_of {o:Ob} {R1:List Row} {K:List Bool} (w:WF o) (h1:R1.length=o.rows.length) (hK:K.length=o.rows.length) (ok:∀ (i:Nat) r,R1[i]? = some r->rOk r)
    (hd:∀ i,K[i]? = some false->i+1<o.rows.length) (hf:∀ (i:Nat) r,R1[i]? = some r->fallsF r=true->i+1<o.rows.length)
    (ht:∀ (i:Nat) c off,R1[i]? = some (.br c off)->0<=(i:Int)+1+off/\(i:Int)+1+off<=o.rows.length/\(c ≠ .NV->(i:Int)+1+off<o.rows.length))
    (hfix:∀ i ∈ o.fix,K[i]? = some true->R1[i]? = o.rows[i]?):PassOK o R1 K:=by
  have hd':∀ i,K[i]? = some false->i+1<K.length:=fun i hi=>by rw [hK]; exact hd i hi
  have lt:∀ p,p<o.rows.length->cnt K p<cnt K o.rows.length:=fun p hp=>by
    have:=cnt_lt hd' (p:=p) (by omega)
    rwa [hK] at this
  exact ⟨h1,hK,ok,fun i r hr uu h=>⟨hf i r hr h,lt _ (hf i r hr h)⟩,fun i c off h=>⟨(ht i c off h).1,(ht i c off h).2.1⟩,fun i c off h uu hc=>⟨(ht i c off h).2.2 hc,lt _ (by have:=(ht i c off h).2.2 hc; have:=(ht i c off h).1; omega)⟩,hfix,lt _ w.body,lt _ w.go,fun e he=>lt _ (w.ent e he)⟩
noncomputable def Good (o o':Ob):Prop:=WF o'/\Imp o o'
theorem Good.trans {o o' o'':Ob} (h:Good o o') (h':Good o' o''):Good o o'':=⟨h'.1,h.2.trans h'.2⟩
theorem good_of {o:Ob} {R1:List Row} {K:List Bool} {FL:Nat->Prop} {J:M->Prop} (w:WF o) (p:PassOK o R1 K) (s:Simh o R1 K FL J)
    (hJ:∀ st,st=o.body \/ st=o.go \/ st ∈ o.ent->∀ m,Okm m->J { m with pc:=st }):Good o (remapO o R1 K):=by
  refine ⟨wf_remap w p,cnt K,rfl,rfl,rfl,?_,fun st hst m n out hm h=>?_⟩
  · show (mvUpto K R1 R1.length).length<=_
    have h1:=p.len1
    have h2:=p.lenK
    rw [mvUpto_len (by omega) _ (Nat.le_refl _),<- h1]
    exact cnt_le
  · exact skip_sim w p s n _ _ out (hJ st hst m hm) rfl rfl rfl (fun uu=>rfl) h
theorem start_lt {o:Ob} (w:WF o) {st:Nat} (h:st=o.body \/ st=o.go \/ st ∈ o.ent):st<o.rows.length:=by
  rcases h with h | h | h
  · rw [h]; exact w.body
  · rw [h]; exact w.go
  · exact w.ent _ h
theorem br_good {o:Ob} {K:List Bool} (w:WF o) (h:BrOK o K):Good o (remapO o o.rows K):=by
  have hd:∀ i,K[i]? = some false->i+1<o.rows.length:=by
    intro i hi
    have hil:=(List.getElem?_eq_some_iff.mp hi).1
    have hl:=h.len
    have hr:o.rows[i]? = some (o.rows[i]'(by omega)):=List.getElem?_eq_getElem _
    obtain ⟨c,off,e,h1⟩:=h.out i _ hr hi
    rw [e] at hr
    have ht:=w.tgt i c off hr
    by_cases hc:c = .NV
    · exact w.falls i _ hr (by simp [fallsF,hc])
    · rcases h1 with h1 | h1
      · have:=ht.2.2 hc; omega
      · exact (hc h1).elim
  refine good_of (FL:=fun uu=>True) (J:=J0 o) w (passOK_of w rfl h.len w.ok hd w.falls w.tgt fun uu uu uu=>rfl) ⟨fun m hm=>hm.1,fun m hm=>hm.2,fun m hm h2 h5=>hm.next w h2 h5,fun uu uu uu uu=>trivial,fun uu uu uu uu uu uu uu=>trivial,
    fun m r hm hr hk=>.inl hr,fun m r hm hr hk=>?_⟩ fun st hst m hm=>⟨hm.pc st m.marks,start_lt w hst⟩
  obtain ⟨c,off,rfl,h1⟩:=h.out _ _ hr hk
  refine ⟨m.marks,?_,fun uu=>⟨rfl,trivial⟩⟩
  rw [step_br hr]
  have:(if holdsF c m.marks=true then ((m.pc:Int)+1+off).toNat else m.pc+1)=m.pc+1:=by
    split
    · rename_i hv
      rcases h1 with h1 | h1
      · subst h1; omega
      · subst h1; cases hv
    · rfl
  rw [this]
theorem dead_good {o:Ob} {K:List Bool} (w:WF o) (h:DeadOK o K):Good o (remapO o o.rows K):=by
  have hl:=h.len
  have lt:∀ p,K[p]? = some true->cnt K p<cnt K o.rows.length:=fun p hp=>by
    have:=cnt_true hp
    rwa [hl] at this
  have p:PassOK o o.rows K:=by
    refine ⟨rfl,hl,w.ok,fun i r hr hk hf=>⟨w.falls i r hr hf,?_⟩,fun i c off hr=>⟨(w.tgt i c off hr).1,(w.tgt i c off hr).2.1⟩,fun i c off hr hk hc=>⟨(w.tgt i c off hr).2.2 hc,?_⟩,fun uu uu uu=>rfl,lt _ h.body,lt _ h.go,fun e he=>lt _ (h.ent e he)⟩
    · have:=h.succ i r _ hr hk (succ_falls hf (w.falls i r hr hf))
      exact lt _ (by simpa using this)
    · have ht:=w.tgt i c off hr
      exact lt _ (h.succ i _ _ hr hk (succ_jump hc ht.1 (ht.2.2 hc)))
  refine good_of (FL:=fun uu=>True) (J:=fun m=>J0 o m/\K[m.pc]? = some true) w p ⟨fun m hm=>hm.1.1,fun m hm=>hm.1.2,fun m hm h2 h5=>⟨hm.1.next w h2 h5,?_⟩,fun uu uu uu uu=>trivial,fun uu uu uu uu uu uu uu=>trivial,
    fun m r hm hr hk=>.inl hr,fun m r hm hr hk=>?_⟩ fun st hst m hm=>⟨⟨hm.pc st m.marks,start_lt w hst⟩,?_⟩
  · obtain ⟨r,hr⟩:=rowEx hm.1.2
    rcases step_kind hr h2 h5 with ⟨hf,he⟩ | ⟨c,off,rfl,hc,he⟩
    · rw [he]
      have:=h.succ _ r _ hr hm.2 (succ_falls hf (w.falls _ r hr hf))
      simpa using this
    · have ht:=w.tgt _ c off hr
      rw [he]
      exact h.succ _ _ _ hr hm.2 (succ_jump hc ht.1 (ht.2.2 hc))
  · rw [hm.2] at hk; cases hk
  · rcases hst with h1 | h1 | h1
    · rw [h1]; exact h.body
    · rw [h1]; exact h.go
    · exact h.ent _ h1
theorem set_reg {m:M} (h:Okm m) {a:Nat} (ha:a<4):m.regs.set a (reg m a)=m.regs:=by
  apply List.ext_getElem?
  intro i
  rw [List.getElem?_set]
  split
  · rename_i e
    subst e
    rw [if_pos (by have:=h.len; omega)]
    exact (h.reg (by omega)).1.symm
  · rfl
theorem mod_same {x:Int} (h:0<=x/\x<4294967296):x.fmod 4294967296=x:=by
  rw [Int.fmod_eq_emod_of_nonneg _ (by decide)]; omega
theorem idle_step {o:Ob} {m:M} {r:Row} (h:Okm m) (hr:o.rows[m.pc]? = some r) (ok:rOk r) (hi:isIdle r=true):∃ mk,stepF o.rows m=({ m with pc:=m.pc+1,marks:=mk },Option.none):=by
  rcases r with ⟨op,a,b,c⟩ | ⟨op,a,b,c⟩ | ⟨op,a,c⟩ | ⟨c,off⟩ | ⟨c,en,ep⟩ | ⟨c⟩ <;> try (cases hi; done)
  · cases op <;> try (cases hi; done)
    have e:a=c:=by simpa [isIdle] using hi
    subst e
    have hg:=h.reg (i:=a) (by have:=ok.1; omega)
    rw [step_reg hr]
    have:(actF ROp.MOV.a (reg m b) (reg m a)).1=reg m a:=mod_same hg.2
    rw [this,set_reg h ok.1]
    exact ⟨_,rfl⟩
  · have e:op ≠ .MOVI/\a=b/\c=0:=by simpa [isIdle] using hi
    obtain ⟨hop,rfl,rfl⟩:=e
    have hg:=h.reg (i:=a) (by have:=ok.1; omega)
    rw [step_imm hr]
    have:(actF op.a (reg m a) (Int.fmod 0 4294967296)).1=reg m a:=by
      have e0:Int.fmod 0 4294967296=0:=by decide
      rw [e0]
      cases op
      · show (reg m a+0).fmod 4294967296=_
        rw [Int.add_zero]; exact mod_same hg.2
      · show (reg m a - 0).fmod 4294967296=_
        rw [Int.sub_zero]; exact mod_same hg.2
      · exact (hop rfl).elim
      · show (Spec.bitOr (reg m a) 0).fmod 4294967296=_
        obtain ⟨k,hk⟩:∃ k:Nat,reg m a=k:=⟨(reg m a).toNat,by omega⟩
        have:=bor k 0
        rw [hk]
        rw [hk] at hg
        have h0:Spec.bitOr (k:Int) 0=k:=by simpa using this
        rw [h0]; exact mod_same hg.2
      · show (reg m a*2 ^ (Int.fmod 0 32).toNat).fmod 4294967296=_
        have e1:(Int.fmod 0 32).toNat=0:=by decide
        rw [e1]
        simp only [Int.pow_zero,Int.mul_one]
        exact mod_same hg.2
    rw [this,set_reg h ok.1]
    exact ⟨_,rfl⟩
theorem idle_falls {r:Row} (h:isIdle r=true):fallsF r=true:=by
  cases r <;> first | rfl | cases h
theorem idle_good {o:Ob} {K:List Bool} (w:WF o) (h:IdleOK o K):Good o (remapO o o.rows K):=by
  obtain ⟨A,FL,lv,hout⟩:=h.out
  have hl:=h.len
  have hd:∀ i,K[i]? = some false->i+1<o.rows.length:=by
    intro i hi
    have hil:=(List.getElem?_eq_some_iff.mp hi).1
    have hr:o.rows[i]? = some (o.rows[i]'(by omega)):=List.getElem?_eq_getElem _
    exact w.falls i _ hr (idle_falls (hout i _ hr hi).1)
  refine good_of (FL:=FL) (J:=J0 o) w (passOK_of w rfl hl w.ok hd w.falls w.tgt fun uu uu uu=>rfl) ⟨fun m hm=>hm.1,fun m hm=>hm.2,fun m hm h2 h5=>hm.next w h2 h5,lv.tests,lv.thru,
    fun m r hm hr hk=>.inl hr,fun m r hm hr hk=>?_⟩ fun st hst m hm=>⟨hm.pc st m.marks,start_lt w hst⟩
  obtain ⟨hid,uu,hA⟩:=hout _ _ hr hk
  obtain ⟨mk,hst⟩:=idle_step hm.1 hr (w.ok _ _ hr) hid
  refine ⟨mk,hst,fun hF=>?_⟩
  have:=lv.after _ r _ hr hA (succ_falls (idle_falls hid) (hd _ hk))
  exact (this (by simpa using hF)).elim
theorem rel_good {o:Ob} {R1:List Row} {K:List Bool} (w:WF o) (h:RelOK o R1 K):Good o (remapO o R1 K):=by
  obtain ⟨A,FL,E,lv,hEb,hEg,hEe,hEt,hout⟩:=h.out
  have hl:=h.len1
  have hlK:=h.lenK
  have get:∀ (i:Nat) r1,R1[i]? = some r1->∃ r b,o.rows[i]? = some r/\K[i]? = some b/\RS o E A i r b r1:=by
    intro i r1 h1
    have hil:=(List.getElem?_eq_some_iff.mp h1).1
    exact ⟨o.rows[i]'(by omega),K[i]'(by omega),List.getElem?_eq_getElem _,List.getElem?_eq_getElem _,hout i _ _ r1 (List.getElem?_eq_getElem _) (List.getElem?_eq_getElem _) h1⟩
  have hd:∀ i,K[i]? = some false->i+1<o.rows.length:=by
    intro i hi
    have hil:=(List.getElem?_eq_some_iff.mp hi).1
    have hr:o.rows[i]? = some (o.rows[i]'(by omega)):=List.getElem?_eq_getElem _
    have hr1:R1[i]? = some (R1[i]'(by omega)):=List.getElem?_eq_getElem _
    rcases hout i _ _ _ hr hi hr1 with ⟨h1,uu⟩ | ⟨a,c,a2,uu,uu,uu,uu,h1,uu⟩
    · cases h1
    · rw [h1] at hr; exact w.falls i _ hr rfl
  have p:PassOK o R1 K:=by
    refine passOK_of w hl hlK (fun i r1 h1=>?_) hd (fun i r1 h1 hf=>?_) (fun i c off h1=>?_) (fun i hi hk=>?_)
    · obtain ⟨r,b,hr,hb,rs⟩:=get i r1 h1
      rcases rs with ⟨uu,rfl⟩ | ⟨a,c,a2,h2,uu,uu,h3,rfl,(⟨uu,rfl,uu⟩ | ⟨uu,rfl,uu⟩)⟩
      · exact w.ok i _ hr
      · exact w.ok i _ hr
      · have e1:=w.ok _ _ h3
        have e2:=w.ok _ _ hr
        exact ⟨e2.1,by decide,e1.1⟩
    · obtain ⟨r,b,hr,hb,rs⟩:=get i r1 h1
      rcases rs with ⟨uu,rfl⟩ | ⟨a,c,a2,h2,uu,uu,h3,rfl,uu⟩
      · exact w.falls i _ hr hf
      · exact w.falls i _ hr rfl
    · obtain ⟨r,b,hr,hb,rs⟩:=get i _ h1
      rcases rs with ⟨uu,rfl⟩ | ⟨a,c,a2,h2,uu,uu,h3,rfl,(⟨uu,h4,uu⟩ | ⟨uu,h4,uu⟩)⟩
      · exact w.tgt i c off hr
      · cases h4
      · cases h4
    · have hil:=w.fixlt hi
      have hr1:R1[i]? = some (R1[i]'(by omega)):=List.getElem?_eq_getElem _
      obtain ⟨r,b,hr,hb,rs⟩:=get i _ hr1
      rcases rs with ⟨uu,h4⟩ | ⟨a,c,a2,h2,uu,hn,uu⟩
      · rw [hr1,hr,h4]
      · exact (hn hi).elim
  refine good_of (FL:=FL) (J:=fun m=>J0 o m/\(¬ E m.pc->∀ a c,0<m.pc->o.rows[m.pc - 1]? = some (.mem .STR a c)->gotF m.cells c=reg m a)) w p
    ⟨fun m hm=>hm.1.1,fun m hm=>hm.1.2,fun m hm h2 h5=>⟨hm.1.next w h2 h5,fun hnE a c h0 hprev=>?_⟩,lv.tests,lv.thru,fun m r hm hr hk=>?_,fun m r hm hr hk=>?_⟩ fun st hst m hm=>⟨⟨hm.pc st m.marks,start_lt w hst⟩,fun hnE=>?_⟩
  · obtain ⟨r,hr⟩:=rowEx hm.1.2
    rcases step_kind hr h2 h5 with ⟨hf,he⟩ | ⟨c',off,rfl,hc,he⟩
    · rw [he] at hprev
      simp only [Nat.add_sub_cancel] at hprev
      rw [step_str hprev]
      have ho:=w.ok _ _ hprev
      have hg:=hm.1.1.reg (i:=a) (by have:=ho.1; omega)
      exact got_put hg.2.1 hg.2.2
    · have:=hEt _ _ _ hr hc
      rw [he] at hnE
      exact (hnE this).elim
  · have hil:=hm.1.2
    have hr1:R1[m.pc]? = some (R1[m.pc]'(by omega)):=List.getElem?_eq_getElem _
    rcases hout _ _ _ _ hr hk hr1 with ⟨uu,h4⟩ | ⟨a,c,a2,h2,hnE,uu,hprev,rfl,(⟨h4,uu⟩ | ⟨uu,h4,hA⟩)⟩
    · exact .inl (by rw [hr1,h4])
    · cases h4
    · refine .inr ⟨a,c,a2,rfl,by rw [hr1,h4],(w.ok _ _ hprev).1,hm.2 hnE a c h2 hprev,?_⟩
      have:=lv.after _ _ _ hr hA (succ_falls rfl (w.falls _ _ hr rfl))
      simpa using this
  · have hil:=hm.1.2
    have hr1:R1[m.pc]? = some (R1[m.pc]'(by omega)):=List.getElem?_eq_getElem _
    rcases hout _ _ _ _ hr hk hr1 with ⟨h4,uu⟩ | ⟨a,c,a2,h2,hnE,uu,hprev,rfl,(⟨uu,uu,rfl⟩ | ⟨h4,uu⟩)⟩
    · cases h4
    · have hgot:=hm.2 hnE a2 c h2 hprev
      refine ⟨m.marks,?_,fun hF=>⟨rfl,lv.thru _ _ _ hr rfl (succ_falls rfl (w.falls _ _ hr rfl)) (by simpa using hF)⟩⟩
      rw [step_ldr hr,hgot,set_reg hm.1.1 (w.ok _ _ hr).1]
    · cases h4
  · refine (hnE ?_).elim
    rcases hst with h1 | h1 | h1
    · rw [h1]; exact hEb
    · rw [h1]; exact hEg
    · exact hEe _ h1
end Mine.Wk
end
section
namespace Mine.Wk
open PySem
theorem run_mono' {R:List Row} {m:M} {out:Outc} {k:Nat} (h:runF R k m=some out):∀ n,k<=n->runF R n m=some out:=by
  intro n hn
  induction n with
  | zero=>
    have:k=0:=by omega
    subst this; exact h
  | succ n ih=>
    rcases Nat.lt_or_ge n k with h1 | h1
    · have:k=n+1:=by omega
      subst this; exact h
    · exact run_mono n m out (ih h1)
theorem cnt_all {n i:Nat} (h:i<=n):cnt (List.replicate n true) i=i:=by
  simp [cnt,List.take_replicate,Nat.min_eq_left h]
theorem mv_all {R:List Row} (ht:∀ (i:Nat) c off,R[i]? = some (.br c off)->0<=(i:Int)+1+off/\(i:Int)+1+off<=R.length):mvUpto (List.replicate R.length true) R R.length=R:=by
  have hl:(mvUpto (List.replicate R.length true) R R.length).length=R.length:=by
    rw [mvUpto_len (by simp) _ (Nat.le_refl _),cnt_all (Nat.le_refl _)]
  apply List.ext_getElem?
  intro i
  rcases Nat.lt_or_ge i R.length with h | h
  · have hr:R[i]? = some R[i]:=List.getElem?_eq_getElem h
    have:=mvUpto_get (K:=List.replicate R.length true) hr (by simp [List.getElem?_replicate,h]) R.length h (Nat.le_refl _) (by simp)
    rw [cnt_all (by omega)] at this
    rw [this,hr]
    congr 1
    cases e:R[i] with
    | br c off=>
      rw [e] at hr
      have:=ht i c off hr
      simp only [mvR]
      rw [cnt_all (by omega),cnt_all (by omega)]
      congr 1
      omega
    | _=>rfl
  · rw [List.getElem?_eq_none (by omega),List.getElem?_eq_none h]
theorem chain_run {o:Ob} (w:WF o) {t e:Nat} (h:Chain o.rows t e):∀ (m:M) n out,runF o.rows n { m with pc:=t } = some out->∃ k,k<=n/\runF o.rows k { m with pc:=e } = some out:=by
  induction h with
  | refl t=>intro m n out h; exact ⟨n,Nat.le_refl _,h⟩
  | step hr hc ih=>
    rename_i t e off
    intro m n out h
    cases n with
    | zero=>cases h
    | succ n=>
      have ht:=w.tgt t .AL off hr
      have hst:stepF o.rows { m with pc:=t } = ({ m with pc:=((t:Int)+1+off).toNat },Option.none):=by
        rw [step_br (m:={ m with pc:=t }) hr]; rfl
      rw [runF,hst] at h
      simp only at h
      have hlen:=w.len
      have:=ht.2.2 (by decide)
      rw [if_neg (by omega)] at h
      obtain ⟨k,hk,hk2⟩:=ih m n out h
      exact ⟨k,by omega,hk2⟩
theorem st_run {o:Ob} {R1:List Row} (w:WF o) (h:StOK o.rows R1):∀ n m out,J0 o m->runF o.rows n m=some out->runF R1 n m=some out:=by
  intro n
  induction n using Nat.strongRecOn with
  | _ n ih=>
    intro m out hJ hrun
    have hlen:=w.len
    cases n with
    | zero=>cases hrun
    | succ n=>
      obtain ⟨r,hr⟩:=rowEx hJ.2
      have same:stepF R1 m=stepF o.rows m->runF R1 (n+1) m=some out:=by
        intro e
        rw [runF] at hrun ⊢
        rw [e]
        cases h2:(stepF o.rows m).2 with
        | some p=>rw [h2] at hrun; exact hrun
        | none=>
          rw [h2] at hrun
          simp only at hrun ⊢
          split at hrun
          · rename_i h5; rw [if_pos h5]; exact hrun
          · rename_i h5
            rw [if_neg h5]
            exact ih n (by omega) _ out (hJ.next w h2 (by omega)) hrun
      rcases h.row _ r hr with h1 | ⟨c,off,e,rfl,hc,h1,hch,he⟩
      · exact same (by unfold stepF; rw [hr,h1])
      · cases hv:holdsF c m.marks
        · exact same (by rw [step_br hr,step_br h1,hv]; simp)
        · have ht:=w.tgt _ c off hr
          have:=ht.2.2 hc
          have hst:stepF o.rows m=({ m with pc:=((m.pc:Int)+1+off).toNat },Option.none):=by rw [step_br hr,hv]; simp
          have hst1:stepF R1 m=({ m with pc:=e },Option.none):=by
            rw [step_br h1,hv]
            simp only [if_true]
            have e1:((m.pc:Int)+1+((e:Nat) - (m.pc:Int) - 1)).toNat=e:=by omega
            rw [e1]
          rw [runF,hst] at hrun
          simp only at hrun
          rw [if_neg (by omega)] at hrun
          obtain ⟨k,hk,hk2⟩:=chain_run w hch m n out hrun
          have h3:=ih k (by omega) { m with pc:=e } out ⟨hJ.1.pc e m.marks,he⟩ hk2
          rw [runF,hst1]
          simp only
          rw [if_neg (by omega)]
          exact run_mono' h3 n hk
theorem st_good {o:Ob} {R1:List Row} (w:WF o) (h:StOK o.rows R1):Good o (remapO o R1 (List.replicate R1.length true)):=by
  have hl:=h.len
  have hlen:=w.len
  have get:∀ (i:Nat) r1,R1[i]? = some r1->∃ r,o.rows[i]? = some r:=by
    intro i r1 h1
    have hil:=(List.getElem?_eq_some_iff.mp h1).1
    exact ⟨o.rows[i]'(by omega),List.getElem?_eq_getElem _⟩
  have tgt1:∀ (i:Nat) c off,R1[i]? = some (.br c off)->0<=(i:Int)+1+off/\(i:Int)+1+off<=o.rows.length/\(c ≠ .NV->(i:Int)+1+off<o.rows.length):=by
    intro i c off h1
    obtain ⟨r,hr⟩:=get i _ h1
    rcases h.row i r hr with h2 | ⟨c',off',e,rfl,hc,h2,hch,he⟩
    · rw [h1] at h2; cases h2; exact w.tgt i c off hr
    · rw [h1] at h2; cases h2
      exact ⟨by omega,by omega,fun uu=>by omega⟩
  have p:PassOK o R1 (List.replicate R1.length true):=by
    refine passOK_of w hl (by simp [hl]) (fun i r1 h1=>?_) (fun i hi=>by simp [List.getElem?_replicate] at hi) (fun i r1 h1 hf=>?_) tgt1 (fun i hi hk=>?_)
    · obtain ⟨r,hr⟩:=get i r1 h1
      rcases h.row i r hr with h2 | ⟨c',off',e,rfl,hc,h2,hch,he⟩
      · rw [h1] at h2; cases h2; exact w.ok i _ hr
      · rw [h1] at h2; cases h2; exact trivial
    · obtain ⟨r,hr⟩:=get i r1 h1
      rcases h.row i r hr with h2 | ⟨c',off',e,rfl,hc,h2,hch,he⟩
      · rw [h1] at h2; cases h2; exact w.falls i _ hr hf
      · rw [h1] at h2; cases h2; exact w.falls i _ hr hf
    · obtain ⟨op,a,c,hr,uu⟩:=w.fix i hi
      rcases h.row i _ hr with h2 | ⟨c',off',e,h3,uu⟩
      · rw [h2,hr]
      · cases h3
  have hmv:mvUpto (List.replicate R1.length true) R1 R1.length=R1:=mv_all fun i c off h1=>⟨(tgt1 i c off h1).1,by have:=(tgt1 i c off h1).2.1; omega⟩
  refine ⟨wf_remap w p,cnt (List.replicate R1.length true),rfl,rfl,rfl,?_,fun st hst m n out hm hrun=>?_⟩
  · show (mvUpto (List.replicate R1.length true) R1 R1.length).length<=_
    rw [hmv]; omega
  · have hlt:=start_lt w hst
    rw [cnt_all (by omega)]
    show runF (mvUpto (List.replicate R1.length true) R1 R1.length) n _=_
    rw [hmv]
    exact st_run w h n _ out ⟨hm.pc st m.marks,hlt⟩ hrun
end Mine.Wk
end
section
namespace Mine.Wk
open PySem
noncomputable def Plain (v:V):Prop:=(∃ i,v = .int i) \/ ∃ s,v = .str s
theorem eq_plain {n:Nat} {H:AH} {u v:V} (hu:Plain u) (hv:Plain v):∃ b,eqF (n+1) H u v=some b:=by
  rcases hu with ⟨i,rfl⟩ | ⟨s,rfl⟩ <;> rcases hv with ⟨j,rfl⟩ | ⟨t,rfl⟩ <;> exact ⟨_,rfl⟩
theorem eqFs_some {e:V->V->Option Bool}:∀ (xs ys:List V),(∀ x ∈ xs,∀ y ∈ ys,∃ b,e x y=some b)->∃ b,eqFs e xs ys=some b
  | [],[],_=>⟨true,rfl⟩
  | [],_::_,_=>⟨true,rfl⟩
  | _::_,[],_=>⟨true,rfl⟩
  | x::xs,y::ys,h=>by
    obtain ⟨b,hb⟩:=h x (.head _) y (.head _)
    obtain ⟨c,hc⟩:=eqFs_some xs ys fun x hx y hy=>h x (.tail _ hx) y (.tail _ hy)
    exact ⟨b && c,by rw [eqFs,hb]; exact congrArg (Option.map (b && ·)) hc⟩
theorem row_len {r:Row}:(rowL r).length=4:=by rcases r with uu | uu | uu | uu | uu | uu <;> rfl
theorem row_plain {r:Row}:∀ v ∈ rowL r,Plain v:=by
  have p4:∀ {a b c d:V},Plain a->Plain b->Plain c->Plain d->∀ v ∈ [a,b,c,d],Plain v:=fun h1 h2 h3 h4=>List.forall_mem_cons.mpr ⟨h1,List.forall_mem_cons.mpr ⟨h2,List.forall_mem_cons.mpr ⟨h3,List.forall_mem_cons.mpr ⟨h4,List.forall_mem_nil _⟩⟩⟩⟩
  rcases r with uu | uu | uu | uu | uu | uu
  · exact p4 (.inr ⟨_,rfl⟩) (.inl ⟨_,rfl⟩) (.inl ⟨_,rfl⟩) (.inl ⟨_,rfl⟩)
  · exact p4 (.inr ⟨_,rfl⟩) (.inl ⟨_,rfl⟩) (.inl ⟨_,rfl⟩) (.inl ⟨_,rfl⟩)
  · exact p4 (.inr ⟨_,rfl⟩) (.inl ⟨_,rfl⟩) (.inl ⟨_,rfl⟩) (.inl ⟨_,rfl⟩)
  · exact p4 (.inr ⟨_,rfl⟩) (.inr ⟨_,rfl⟩) (.inl ⟨_,rfl⟩) (.inl ⟨_,rfl⟩)
  · exact p4 (.inr ⟨_,rfl⟩) (.inr ⟨_,rfl⟩) (.inl ⟨_,rfl⟩) (.inl ⟨_,rfl⟩)
  · exact p4 (.inr ⟨_,rfl⟩) (.inr ⟨_,rfl⟩) (.inl ⟨_,rfl⟩) (.inl ⟨_,rfl⟩)
theorem eq_row {n:Nat} {H:AH} {r r':Row}:∃ b,eqF (n+2) H (rowV r) (rowV r')=some b:=by
  obtain ⟨b,hb⟩:=eqFs_some (e:=eqF (n+1) H) (rowL r) (rowL r') fun x hx y hy=>eq_plain (row_plain x hx) (row_plain y hy)
  exact ⟨b,(if_pos (row_len.trans row_len.symm)).trans hb⟩
theorem eq_rows {n:Nat} {H:AH} {x y:Nat} {R R':List Row} (hx:H x=some (.list (R.map rowV))) (hy:H y=some (.list (R'.map rowV))):∃ b,eqF (n+3) H (.ref x) (.ref y)=some b:=by
  obtain ⟨b,hb⟩:=eqFs_some (e:=eqF (n+2) H) (R.map rowV) (R'.map rowV) fun u hu v hv=>by
    obtain ⟨r,uu,rfl⟩:=List.mem_map.mp hu
    obtain ⟨r',uu,rfl⟩:=List.mem_map.mp hv
    exact eq_row
  have e:eqF (n+3) H (.ref x) (.ref y)=if (R.map rowV).length=(R'.map rowV).length then eqFs (eqF (n+2) H) (R.map rowV) (R'.map rowV) else some false:=by
    show (listAt H x).bind _=_
    exact bind_of (listAt_of hx) (bind_of (listAt_of hy) rfl)
  rw [e]
  split
  · exact ⟨b,hb⟩
  · exact ⟨false,rfl⟩
theorem w_call1 {C:Cl} {ρ:Env} {H:AH} {f:String} {e:ME} {K:V->AH->Prop} (h:wpE C e ρ H fun w H'=>C f [w] H' K):wpE C (.call f [e]) ρ H K:=h
inductive ImI (H:AH) (a:Nat) (o:Ob) (k:Nat) (ρ:Env) (H':AH):Prop
  | mk (x2 x3:Option V) (c:Nat) (A':Adr) (o':Ob) (hρ:ρ = [some (.ref a),some (.ref c),x2,x3]) (e:Ext H H') (b:ObjAt H' c A' o') (g:Good o o')
theorem improve_spec {n:Nat} {H:AH} {Q:V->AH->Prop} {a:Nat} {A:Adr} {o:Ob} (hO:ObjAt H a A o) (w:WF o)
    (q:∀ a' A' H' o',Ext H H'->ObjAt H' a' A' o'->Good o o'->Q (.ref a') H'):CN (n+8) "improve" [.ref a] H Q:=by
  refine call_of rfl rfl (r_assign (ev_var rfl) (r_for CN_Mono (ev_bi (evs_cons ev_glob evs_nil) (range1 (n:=10) (by decide))) keys_rng iter_rng (ImI H a o) (fun uu uu uu uu=>still_rng) ?_ ⟨_,_,a,A,o,rfl,.rfl,hO,w,.rfl⟩ ?_))
  · rintro k x ρ H1 hx ⟨x2,x3,c,A1,o1,rfl,e1,h1,g1⟩
    refine ⟨_,rfl,r_assignW CN_Mono (w_call1 (w_call (evs_cons (ev_var rfl) evs_nil) (straightened_spec h1 g1.1 fun c2 A2 H2 R1 e2 ho h2=>?_)))⟩
    have g2:=st_good g1.1 ho
    refine reloads_spec h2 g2.1 fun c3 A3 H3 R3 K3 e3 ho3 h3=>?_
    have g3:=rel_good g2.1 ho3
    refine r_assignW CN_Mono (w_call1 (w_call (evs_cons (ev_var rfl) evs_nil) (idle_br_spec h3 g3.1 fun c4 A4 H4 K4 e4 ho4 h4=>?_)))
    have g4:=br_good g3.1 ho4
    refine idle_rows_spec h4 g4.1 fun c5 A5 H5 K5 e5 ho5 h5=>?_
    have g5:=idle_good g4.1 ho5
    refine r_assignW CN_Mono (w_call (evs_cons (ev_var rfl) evs_nil) (dead_spec h5 g5.1 fun c6 A6 H6 K6 e6 ho6 h6=>?_))
    have g6:=dead_good g5.1 ho6
    have E:=e2.trans (e3.trans (e4.trans (e5.trans e6)))
    have G:=g1.trans (g2.trans (g3.trans (g4.trans (g5.trans g6))))
    have h1':=h1.ext E
    obtain ⟨b,hb⟩:=eq_rows (n:=3) h6.hr h1'.hr
    refine r_if CN_Mono (evt_cmp (h6.ev rfl rfl) (h1'.ev rfl rfl) hb) (fun uu=>r_ret (ev_var rfl) (q c6 A6 H6 _ (e1.trans E) h6 G)) fun uu=>r_assign (ev_var rfl) (rest_nil ⟨_,_,c6,A6,_,rfl,e1.trans E,h6,G⟩)
  · rintro ρ H1 ⟨x2,x3,c,A1,o1,rfl,e1,h1,g1⟩
    exact r_ret (ev_var rfl) (q c A1 H1 o1 e1 h1 g1)
end Mine.Wk
end
section
namespace Mine.Wk
open PySem
noncomputable def intL (L:List Int):AO:=.list (L.map V.int)
structure Pop (r:Nat) (H:AH) (L:List Int) (H':AH) (L':List Int):Prop where
  k:∀ b v,b ≠ r->H b=some v->H' b=some v
  g:H' r=some (intL L')
  e:L=[]->L'=[]
  l:L'.length<=L.length
theorem Pop.rfl {r:Nat} {H:AH} {L:List Int} (h:H r=some (intL L)):Pop r H L H L:=⟨fun uu uu uu h=>h,h,id,Nat.le_refl _⟩
theorem Pop.trans {r:Nat} {H H' H'':AH} {L L' L'':List Int} (h:Pop r H L H' L') (h':Pop r H' L' H'' L''):Pop r H L H'' L'' :=
  ⟨fun b v hb hv=>h'.k b v hb (h.k b v hb hv),h'.g,fun e=>h'.e (h.e e),Nat.le_trans h'.l h.l⟩
theorem Pop.ext {r:Nat} {H H' H'':AH} {L L':List Int} (h:Pop r H L H' L') (e:Ext H' H''):Pop r H L H'' L':=⟨fun b v hb hv=>e _ _ (h.k b v hb hv),e _ _ h.g,h.e,h.l⟩
theorem w_meth0 {C:Cl} {ρ:Env} {H:AH} {o:ME} {m:String} {x:V} {p:V × AH} {K:V->AH->Prop} (h1:Ev C o ρ H x) (hk:kindM x m H=true) (h:methF x m [] H=some p) (k:K p.1 p.2):wpE C (.meth o m []) ρ H K:=h1 _ (by rw [hk]; exact iP h k)
theorem wt_nonempty {C:Cl} {ρ:Env} {H:AH} {i r:Nat} {xs:List V} {Q:Bool->AH->Prop} (h:getV ρ i=some (.ref r)) (g:H r=some (.list xs)) (k:∀ H',Ext H H'->Q (!xs.isEmpty) H'):wpT C (.cmp (.var i) [.ne] [.list []]) ρ H Q :=
  ev_var h _ fun z hz=>iB (r:=!xs.isEmpty) (by
    have e:=ext_set (o:=.list []) (.rfl (H:=H)) hz
    show (listAt _ r).bind _=_
    refine bind_of (listAt_of (e _ _ g)) (bind_of (listAt_of set_same) ?_)
    rcases xs with uu | uu <;> rfl) (k _ (ext_set .rfl hz))
theorem next_spec {n:Nat} {H:AH} {Q:V->AH->Prop} {r:Nat} {L:List Int} (hr:H r=some (intL L)) (hl:L.length<=1000)
    (q:∀ x H' L',Pop r H L H' L'->Q (.int x) H'):CN (n+1) "_law_next" [.ref r] H Q:=by
  refine call_of rfl rfl (r_retW (wt_nonempty (C:=CN n) rfl hr fun H1 e1=>?_))
  rcases Nat.eq_zero_or_pos L.length with h0 | h0
  · obtain rfl:=List.length_eq_zero_iff.mp h0
    exact q 0 H1 [] ((Pop.rfl hr).ext e1)
  · obtain ⟨W,t,rfl⟩:=last_of h0
    have gr:=e1 _ _ hr
    rw [intL,List.map_append] at gr
    have hb:(!((W ++ [t]).map V.int).isEmpty)=true:=by rw [List.map_append]; rcases W.map V.int with uu | uu <;> rfl
    rw [hb]
    have hlw:W.length+1<=1000:=by rw [List.length_append] at hl; exact hl
    show wpE (CN n) (.meth (.var 0) "pop" []) [some (.ref r)] H1 _
    exact w_meth0 (ev_var rfl) (pop_k gr) (pop_m gr (by rw [List.length_map]; exact Nat.lt_of_le_of_lt hlw (by decide))) (q t _ W ⟨fun b v hb hv=>(set_other hb).trans (e1 _ _ hv),set_same,fun h=>absurd h (List.append_ne_nil_of_right_ne_nil _ (List.cons_ne_nil _ _)),by rw [List.length_append]; exact Nat.le_add_right _ _⟩)
theorem take_of {H:AH} {k:Nat} {xs:List V} (hk:k<=1000) (hl:xs.length<=100000):takeL (k:Int) xs=some (.new (.list (xs.take k))):=if_pos ⟨Int.natCast_nonneg k,Int.ofNat_le.mpr hk,hl⟩
theorem slice_list {H:AH} {a:Nat} {xs:List V} {k:Nat} (h:H a=some (.list xs)) (hk:k<=1000) (hl:xs.length<=100000):sliceF (.ref a) (.int (k:Int)) H=some (.new (.list (xs.take k))):=(congrArg (sliceO (k:Int)) h).trans (take_of (H:=H) hk hl)
theorem slice_flist {H:AH} {a:Nat} {xs:List V} {k:Nat} (h:H a=some (.flist xs)) (hk:k<=1000) (hl:xs.length<=100000):sliceF (.ref a) (.int (k:Int)) H=some (.new (.list (xs.take k))):=(congrArg (sliceO (k:Int)) h).trans (take_of (H:=H) hk hl)
theorem mod_at {C:Cl} {ρ:Env} {H:AH} {a:ME} {i k:Int} (h:Ev C a ρ H (.int i)) (hk:k ≠ 0):Ev C (.bin .mod a (.int k)) ρ H (.int (i.fmod k)):=ev_bin h ev_int (bF_mod hk)
theorem fdiv_at {C:Cl} {ρ:Env} {H:AH} {a:ME} {i k:Int} (h:Ev C a ρ H (.int i)) (hk:k ≠ 0) (hs:small k=true):Ev C (.bin .fdiv a (.int k)) ρ H (.int (i.fdiv k)):=ev_bin h ev_int (bF_fdiv hk hs)
theorem pow32_at {C:Cl} {ρ:Env} {H:AH}:Ev C (.bin .pow (.int 2) (.int 32)) ρ H (.int 4294967296):=ev_bin ev_int ev_int (bF_pow (by decide) (by decide))
theorem pow31_at {C:Cl} {ρ:Env} {H:AH}:Ev C (.bin .pow (.int 2) (.int 31)) ρ H (.int 2147483648):=ev_bin ev_int ev_int (bF_pow (by decide) (by decide))
theorem rng30 {H:AH}:biF "range" [.int 30] H=some (.val (.rng 0 30)):=range1 (n:=30) (by decide)
theorem intL_app {L:List Int} {x:Int}:L.map V.int ++ [.int x]=(L ++ [x]).map V.int:=map_one
theorem r_forN {C:Cl} (hC:Mono C) {tg:Tgt} {it:ME} {b ss:List MS} {Q:PO} {ρ:Env} {H:AH} {xs:List V} (h:EvN C it ρ H (.list xs)) (k:∀ a H',New H a (.list xs) H'->ForL C tg b ss Q ρ (.ref a) H'):rest C (.for_ tg it b::ss) Q ρ H :=
  r_forW hC (h _ fun a ha=>k a _ (.mk' ha))
inductive LwI (H:AH) (s r z:Nat) (ys:List Int) (k:Nat) (ρ:Env) (H':AH):Prop
  | mk (x2 x3 x4:Option V) (L:List Int) (hρ:ρ = [some (.ref s),some (.ref r),x2,x3,x4]) (e:Ext H H') (gz:H' z=some (.list (ys.map V.int))) (gr:H' r=some (.list (L.map V.int))) (l:L.length<=31*k)
inductive LwJ (H:AH) (s r z:Nat) (ys:List Int) (y:Int) (m j:Nat) (ρ:Env) (H':AH):Prop
  | mk (fig:Int) (x4:Option V) (L:List Int) (hρ:ρ = [some (.ref s),some (.ref r),some (.int y),some (.int fig),x4]) (e:Ext H H') (gz:H' z=some (.list (ys.map V.int))) (gr:H' r=some (.list (L.map V.int))) (l:L.length<=m+1+j)
theorem law_turn {n:Nat} {H:AH} {s r z k:Nat} {ys:List Int} {x:V} {ρ:Env} {H':AH} {Q:PO} (hr:H r=none) (hzr:z ≠ r) (hyl:ys.length<=40) (hx:(ys.map V.int)[k]? = some x) (h:LwI H s r z ys k ρ H'):Turn (CN n) (.one 2) x f_law_row_l1 (Body (LwI H s r z ys (k+1)) Q) ρ H':=by
  obtain ⟨x2,x3,x4,L,rfl,e,gz,gr,hL⟩:=h
  refine map_get hx fun y hy hv=>?_
  subst hv
  have hk:31*k<=31*40:=Nat.mul_le_mul_left 31 (Nat.le_trans (Nat.le_of_lt (List.getElem?_eq_some_iff.mp hy).1) hyl)
  have lt:∀ {m j:Nat},m<=31*k+1+j->j<=30->m<10000:=fun h hj=>Nat.lt_of_le_of_lt (Nat.le_trans h (Nat.add_le_add (Nat.succ_le_succ hk) hj)) (by decide)
  have t:EvT (CN n) (.cmp (.var 2) [.ge] [.int 0]) [some (.ref s),some (.ref r),some (.int y),x3,x4] H' (decide (y ≥ 0)):=evt_cmp (ev_var rfl) ev_int rfl
  have fg:∃ fig,Ev (CN n) (.ite (.cmp (.var 2) [.ge] [.int 0]) (.var 2) (.bin .sub (.int 7) (.var 2))) [some (.ref s),some (.ref r),some (.int y),x3,x4] H' (.int fig):=by
    rcases hd:decide (y ≥ 0) with uu | uu <;> rw [hd] at t
    · exact ⟨_,ev_iteF t (ev_bin ev_int (ev_var rfl) rfl)⟩
    · exact ⟨_,ev_iteT t (ev_var rfl)⟩
  obtain ⟨fig,fg⟩:=fg
  refine ⟨_,rfl,r_assign fg (r_append (ev_var rfl) gr (by rw [List.length_map]; exact lt (j:=0) (Nat.le_succ_of_le hL) (by decide)) (mod_at (ev_var rfl) (by decide)) fun H3 m3=>?_)⟩
  rw [intL_app] at m3
  refine r_assign (fdiv_at (ev_var rfl) (by decide) (by decide)) (r_for CN_Mono (ev_bi (evs_cons ev_int evs_nil) rng30) keys_rng iter_rng (LwJ H s r z ys y (31*k)) (fun uu uu uu uu=>still_rng) ?_ ⟨_,_,_,rfl,m3.ext e hr,(m3.o _ hzr).trans gz,m3.g,by rw [List.length_append]; exact Nat.succ_le_succ hL⟩ ?_)
  · rintro j x ρ H4 hx ⟨fig,x4,L,rfl,e4,gz4,gr4,hL4⟩
    obtain ⟨rfl,hj⟩:=rngL_get hx
    have hj:j<30:=hj
    refine ⟨_,rfl,r_if CN_Mono (evt_cmp (op:=.gt) (c:=decide (fig > 0)) (ev_var rfl) ev_int rfl) (fun uu=>r_append (ev_var rfl) gr4 (by rw [List.length_map]; exact lt hL4 (Nat.le_of_lt hj)) (mod_at (ev_var rfl) (by decide)) fun H5 m5=>?_) fun uu=>rest_nil ⟨_,_,L,rfl,e4,gz4,gr4,Nat.le_succ_of_le hL4⟩⟩
    rw [intL_app] at m5
    exact r_assign (fdiv_at (ev_var rfl) (by decide) (by decide)) (rest_nil ⟨_,_,_,rfl,m5.ext e4 hr,(m5.o _ hzr).trans gz4,m5.g,by rw [List.length_append]; exact Nat.succ_le_succ hL4⟩)
  · rintro ρ H4 ⟨fig,x4,L,rfl,e4,gz4,gr4,hL4⟩
    refine rest_nil ⟨_,_,_,L,rfl,e4,gz4,gr4,Nat.le_trans hL4 ?_⟩
    have:(rngL 0 30).length=30:=rngL_len
    rw [this]; exact Nat.le_refl _
theorem law_row_spec {n:Nat} {H:AH} {Q:V->AH->Prop} {s:Nat} {is:List Int} (hs:H s=some (.flist (is.map V.int))) (hl:is.length<=1000)
    (q:∀ r H' L,Made H r (intL L) H'->L.length<=160->Q (.ref r) H'):CN (n+1) "_law_row" [.ref s] H Q:=by
  refine call_of rfl rfl (r_new (evn_list evs_nil) fun r H1 N1=>?_)
  have hyl:(is.take 40).length<=40:=by rw [List.length_take]; exact Nat.min_le_left _ _
  have hsl:sliceF (.ref s) (.int 40) H1=some (.new (.list ((is.take 40).map V.int))):=by
    rw [List.map_take]; exact slice_flist (k:=40) (N1.e _ _ hs) (by decide) (by rw [List.length_map]; exact Nat.le_trans hl (by decide))
  refine r_forN CN_Mono (evn_slice (ev_var rfl) ev_int hsl) fun z H2 N2=>⟨z,_,rfl,N2.g,LwI H s r z (is.take 40),fun uu uu2 uu3 ⟨uu4,uu5,uu6,uu7,uu8,uu9,gz,uu10,uu11⟩=>gz,fun k x ρ H' hx h=>law_turn N1.n (ne_of_none N1.g N2.n).symm hyl hx h,⟨_,_,_,[],rfl,N1.e.trans N2.e,N2.g,N2.e _ _ N1.g,Nat.zero_le _⟩,?_⟩
  rintro ρ H' ⟨x2,x3,x4,L,rfl,e,gz,gr,hL⟩
  rw [List.length_map] at hL
  have hL:L.length<=31*40:=Nat.le_trans hL (Nat.mul_le_mul_left 31 hyl)
  refine r_new (evn_slice (ev_var rfl) ev_int (slice_list (k:=160) gr (by decide) (by rw [List.length_map]; exact Nat.le_trans hL (by decide)))) fun r2 H5 N5=>?_
  have g5:=N5.g
  rw [<- List.map_take] at g5
  have hl5:(L.take 160).length<=160:=by rw [List.length_take]; exact Nat.min_le_left _ _
  have hrm:methF (.ref r2) "reverse" [] H5=some (.none,H5.set r2 (.list ((L.take 160).map V.int).reverse)):=(congrArg (methO H5 r2 "reverse" []) g5).trans (if_pos (by rw [List.length_map]; exact Nat.lt_of_le_of_lt hl5 (by decide)))
  refine r_meth (ev_var rfl) (congrArg (kindO "reverse") g5) evs_nil hrm (r_ret (ev_var rfl) (q r2 _ (L.take 160).reverse ⟨e.none N5.n,(Mut.mk' (o:=.list ((L.take 160).map V.int).reverse)).ext (e.trans N5.e) (e.none N5.n),?_⟩ (by rw [List.length_reverse]; exact hl5)))
  rw [set_same,intL,List.map_reverse]
end Mine.Wk
end
section
namespace Mine.Wk
open PySem
section
variable {n:Nat} {ρ:Env} {H:AH} {Q:V->AH->Prop} {r:Nat} {L:List Int} {C:Cl}
theorem w_next {j:Nat} (hρ:getV ρ j=some (.ref r)) (hr:H r=some (intL L)) (hl:L.length<=1000) (q:∀ x H' L',Pop r H L H' L'->Q (.int x) H'):wpE (CN (n+1)) (.call "_law_next" [.var j]) ρ H Q :=
  w_call (evs_cons (ev_var hρ) evs_nil) (next_spec hr hl q)
theorem w_nmodE {j k:Nat} {e:ME} (h2:∀ H',Ev (CN (n+1)) e ρ H' (.int (k:Int))) (hk:0<k) (hρ:getV ρ j=some (.ref r)) (hr:H r=some (intL L)) (hl:L.length<=1000) (q:∀ (x:Nat) H' L',Pop r H L H' L'->x<k->Q (.int (x:Int)) H') :
    wpE (CN (n+1)) (.bin .mod (.call "_law_next" [.var j]) e) ρ H Q:=by
  have h1:(0:Int)<k:=Int.ofNat_lt.mpr hk
  refine w_next hρ hr hl fun x H' L' p=>h2 H' _ (iR (r:=.val (.int (x.fmod k))) (bF_mod (Int.ne_of_gt h1)) ?_)
  obtain ⟨y,hj⟩:=Int.eq_ofNat_of_zero_le (Int.fmod_nonneg_of_pos x h1)
  have h2:=Int.fmod_lt_of_pos x h1
  show Q (.int (x.fmod k)) H'
  rw [hj] at h2 ⊢
  exact q y H' L' p (Int.ofNat_lt.mp h2)
theorem w_nmod {j k:Nat} (hk:0<k) (hρ:getV ρ j=some (.ref r)) (hr:H r=some (intL L)) (hl:L.length<=1000) (q:∀ (x:Nat) H' L',Pop r H L H' L'->x<k->Q (.int (x:Int)) H') :
    wpE (CN (n+1)) (.bin .mod (.call "_law_next" [.var j]) (.int (k:Int))) ρ H Q:=w_nmodE (fun uu=>ev_int) hk hρ hr hl q
theorem w_nmodv {m:Nat} (hρ1:getV ρ 1=some (.int (m:Int))) (hρ:getV ρ 0=some (.ref r)) (hr:H r=some (intL L)) (hl:L.length<=1000) (q:∀ (x:Nat) H' L',Pop r H L H' L'->x<m+1->Q (.int (x:Int)) H') :
    wpE (CN (n+1)) (.bin .mod (.call "_law_next" [.var 0]) (.bin .add (.var 1) (.int 1))) ρ H Q:=w_nmodE (k:=m+1) (fun uu=>add_at (ev_var hρ1) ev_int) (Nat.succ_pos m) hρ hr hl q
theorem evs_strs:∀ {xs:List String},Evs C (xs.map ME.str) ρ H (xs.map V.str)
  | []=>evs_nil
  | x::xs=>evs_cons ev_str evs_strs
theorem w_pick {es:List ME} {vs:List V} (hes:Evs (CN (n+1)) es ρ H vs) (hk:0<vs.length) (hk2:vs.length<=100) (hρ:getV ρ 0=some (.ref r)) (hr:H r=some (intL L)) (hl:L.length<=1000)
    (q:∀ (i:Nat) v H' L',Pop r H L H' L'->vs[i]? = some v->Q v H'):wpE (CN (n+1)) (.sub (.list es) (.bin .mod (.call "_law_next" [.var 0]) (.int (vs.length:Int)))) ρ H Q :=
  hes _ fun z hz=>w_nmod hk hρ (ext_set .rfl hz _ _ hr) hl fun x H' L' p hx=>by
    have gz':=p.k z _ (ne_of_none hr hz).symm set_same
    have hv:vs[x]? = some vs[x]:=List.getElem?_eq_getElem hx
    exact iV (sub_nth gz' hv (Nat.lt_trans hx (Nat.lt_of_le_of_lt hk2 (by decide)))) (q x _ H' L' ⟨fun b v hb hv=>p.k b v hb (ext_set .rfl hz _ _ hv),p.g,p.e,p.l⟩ hv)
theorem w_tup4 {a b c d:ME} (h:wpE C a ρ H fun v1 H1=>wpE C b ρ H1 fun v2 H2=>wpE C c ρ H2 fun v3 H3=>wpE C d ρ H3 fun v4 H4=>Q (.tup [v1,v2,v3,v4]) H4):wpE C (.tup [a,b,c,d]) ρ H Q:=h
inductive BinR (C:Cl) (e:ME) (op:BOp) (ρ:Env) (K:V->AH->Prop) (v:V) (H:AH):Prop
  | mk (y r:V) (h2:Ev C e ρ H y) (h:binF op v y H=some (.val r)) (k:K r H)
theorem w_binL (hC:Mono C) {a b:ME} {op:BOp} (h:wpE C a ρ H (BinR C b op ρ Q)):wpE C (.bin op a b) ρ H Q:=wpE_mono hC a _ _ _ _ (fun v H₁ z=>by
  obtain ⟨y,r,h2,h,k⟩:=z
  exact h2 _ (iR (r:=.val r) h k)) h
inductive BinV (op:BOp) (K:V->AH->Prop) (x y:V) (H:AH):Prop
  | mk (r:V) (h:binF op x y H=some (.val r)) (k:K r H)
theorem w_binR (hC:Mono C) {a b:ME} {op:BOp} {x:V} (h1:Ev C a ρ H x) (h:wpE C b ρ H (BinV op Q x)):wpE C (.bin op a b) ρ H Q:=h1 _ (wpE_mono hC b _ _ _ _ (fun y H₁ z=>by
  obtain ⟨r,h,k⟩:=z
  exact iR (r:=.val r) h k) h)
inductive CmpR (C:Cl) (e:ME) (op:COp) (ρ:Env) (K:Bool->AH->Prop) (v:V) (H:AH):Prop
  | mk (y:V) (c:Bool) (h2:Ev C e ρ H y) (h:cmpF op v y H=some c) (k:K c H)
theorem wt_cmp (hC:Mono C) {x e:ME} {op:COp} {K:Bool->AH->Prop} (h:wpE C x ρ H (CmpR C e op ρ K)):wpT C (.cmp x [op] [e]) ρ H K:=wpE_mono hC x _ _ _ _ (fun v H₁ z=>by
  obtain ⟨y,c,h2,h,k⟩:=z
  exact h2 _ (iB h k)) h
theorem w_iteT (hC:Mono C) {t a b:ME} (h:wpT C t ρ H fun c H₁=>wpE C (bif c then a else b) ρ H₁ Q):wpE C (.ite t a b) ρ H Q:=wpT_mono hC t _ _ _ _ (fun c H₁ z=>by rcases c with uu | uu <;> exact z) h
theorem small_nat {k:Nat} (h:k<18446744073709551616):small (k:Int)=true:=decide_eq_true h
end
noncomputable def cndL:List Cnd:=[.AL,.EQ,.NE,.LT,.GE,.NV,.AL,.HI]
noncomputable def ropL:List ROp:=[.MOV,.ADD,.SUB,.IOR]
noncomputable def iopL:List IOp:=[.ADDI,.SUBI,.MOVI,.IORI,.LSLI]
noncomputable def mopL:List MOp:=[.LDR,.STR,.STR,.LDR,.STB]
noncomputable def immL:List Int:=[0,1,-1,5]
theorem made_spec {n:Nat} {H:AH} {Q:V->AH->Prop} {r m:Nat} {L:List Int} (hr:H r=some (intL L)) (hl:L.length<=1000) (hm:m<=100)
    (q:∀ row H' L',Pop r H L H' L'->rOk row->Q (rowV row) H'):CN (n+2) "_law_made" [.ref r,.int m] H Q:=by
  refine call_of rfl rfl (r_assignW CN_Mono (w_nmod (k:=12) (by decide) rfl hr hl fun kind H1 L1 p1 hkind=>r_assignW CN_Mono (w_nmod (k:=4) (by decide) rfl p1.g (Nat.le_trans p1.l hl) fun a H2 L2 p2 ha=>?_)))
  have p2:=p1.trans p2
  refine r_assignW CN_Mono (w_nmod (k:=4) (by decide) rfl p2.g (Nat.le_trans p2.l hl) fun b H3 L3 p3 hb=>?_)
  have p3:=p2.trans p3
  refine r_assignW CN_Mono (w_pick (vs:=cndL.map fun c=>V.str c.s) (evs_strs (xs:=cndL.map Cnd.s)) (by decide) (by decide) rfl p3.g (Nat.le_trans p3.l hl) fun ci cv H4 L4 p4 hcv=>map_get hcv fun c uu hc=>?_)
  subst hc
  have p4:=p3.trans p4
  have hl4:=Nat.le_trans p4.l hl
  refine r_if CN_Mono (lt_t (ev_var rfl) ev_int) (fun uu=>?_) fun uu=>?_
  · refine r_retW (w_tup4 (w_pick (vs:=ropL.map fun c=>V.str c.s) (evs_strs (xs:=ropL.map ROp.s)) (by decide) (by decide) rfl p4.g hl4 fun oi ov H5 L5 p5 hov=>map_get hov fun op uu ho=>?_))
    subst ho
    have p5:=p4.trans p5
    exact ev_var rfl _ (ev_var rfl _ (w_nmod (k:=4) (by decide) rfl p5.g (Nat.le_trans p5.l hl) fun d H6 L6 p6 hd=>q (.reg op a b d) H6 L6 (p5.trans p6) ⟨ha,hb,hd⟩))
  refine r_if CN_Mono (lt_t (ev_var rfl) ev_int) (fun uu=>?_) fun uu=>?_
  · refine r_assignW CN_Mono (w_pick (vs:=iopL.map fun c=>V.str c.s) (evs_strs (xs:=iopL.map IOp.s)) (by decide) (by decide) rfl p4.g hl4 fun oi ov H5 L5 p5 hov=>map_get hov fun op uu ho=>?_)
    subst ho
    have p5:=p4.trans p5
    refine r_retW (w_tup4 (ev_var rfl _ (ev_var rfl _ ?_)))
    refine w_iteT CN_Mono (wt_cmp CN_Mono (w_nmod (k:=2) (by decide) rfl p5.g (Nat.le_trans p5.l hl) fun y H6 L6 p6 hy=>⟨_,(y:Int) == 1,ev_int,rfl,?_⟩))
    have p6:=p5.trans p6
    have fin:∀ {e:Nat} {ρ:Env},e<4->getV ρ 0=some (.ref r)->wpE (CN (n+1)) (.sub (.list [.int 0,.int 1,.neg (.int 1),.int 5]) (.bin .mod (.call "_law_next" [.var 0]) (.int 4))) ρ H6 fun v4 H7=>Q (.tup [.str op.s,.int a,.int e,v4]) H7:=fun he h0=>
      w_pick (n:=n) (vs:=immL.map V.int) (evs_cons ev_int (evs_cons ev_int (evs_cons (ev_neg ev_int) (evs_cons ev_int evs_nil)))) (by decide) (by decide) h0 p6.g (Nat.le_trans p6.l hl) fun ci cv H7 L7 p7 hcv=>map_get hcv fun c' uu hc=>hc ▸ q (.imm op a _ c') H7 L7 (p6.trans p7) ⟨ha,he⟩
    rcases ((y:Int) == 1) with uu | uu
    · exact ev_var rfl _ (fin hb rfl)
    · exact ev_var rfl _ (fin ha rfl)
  refine r_if CN_Mono (lt_t (ev_var rfl) ev_int) (fun uu=>?_) fun uu=>?_
  · refine r_retW (w_tup4 (w_pick (vs:=mopL.map fun c=>V.str c.s) (evs_strs (xs:=mopL.map MOp.s)) (by decide) (by decide) rfl p4.g hl4 fun oi ov H5 L5 p5 hov=>map_get hov fun op uu ho=>?_))
    subst ho
    have p5:=p4.trans p5
    exact ev_var rfl _ (ev_int _ (w_binR CN_Mono ev_int (w_binR CN_Mono ev_int (w_nmod (k:=3) (by decide) rfl p5.g (Nat.le_trans p5.l hl) fun y H6 L6 p6 hy=>⟨_,bF_mul (by decide) (small_nat (Nat.lt_trans hy (by decide))),⟨_,bF_add,q (.mem op a (64+4*(y:Int))) H6 L6 (p5.trans p6) ⟨ha,by omega⟩⟩⟩))))
  refine r_if CN_Mono (lt_t (ev_var rfl) ev_int) (fun uu=>?_) fun uu=>?_
  · have hm2:(m:Int)+2 ≠ 0:=by omega
    exact r_retW (w_tup4 (ev_str _ (ev_var rfl _ (w_binL CN_Mono (w_binL CN_Mono (w_next rfl p4.g hl4 fun y H5 L5 p5=>⟨_,_,add_at (ev_var rfl) ev_int,bF_mod hm2,⟨_,_,fdiv_at (ev_var rfl) (by decide) (by decide),bF_sub,ev_int _ (q (.br c (y.fmod ((m:Int)+2) - (m:Int).fdiv 2)) H5 L5 (p4.trans p5) trivial)⟩⟩))))))
  refine r_if CN_Mono (evt_cmp (ev_var rfl) ev_int (c:=(kind:Int) == 10) rfl) (fun uu=>?_) fun uu=>?_
  · refine r_retW (w_tup4 (ev_str _ (ev_var rfl _ (w_binR CN_Mono ev_int (w_nmod (k:=9) (by decide) rfl p4.g hl4 fun y H5 L5 p5 hy=>⟨_,bF_add,?_⟩)))))
    have p5:=p4.trans p5
    exact w_next (n:=n) rfl p5.g (Nat.le_trans p5.l hl) fun z H6 L6 p6=>q (.trap c (1+(y:Int)) z) H6 L6 (p5.trans p6) (show (1:Int)+y ≠ 0 by omega)
  · exact r_ret (ev_tup (evs_cons ev_str (evs_cons (ev_var rfl) (evs_cons ev_int (evs_cons ev_int evs_nil))))) (q (.ret c) H4 L4 p4 trivial)
end Mine.Wk
end
section
namespace Mine.Wk
open PySem
noncomputable def mnI (x y:Int):Int:=if y<x then y else x
noncomputable def mxI (x y:Int):Int:=if y > x then y else x
theorem mn_bi {x y:Int} {H:AH}:biF "min" [.int x,.int y] H=some (.val (.int (mnI x y))):=rfl
theorem mx_bi {x y:Int} {H:AH}:biF "max" [.int x,.int y] H=some (.val (.int (mxI x y))):=rfl
noncomputable def clampF (m k:Nat) (off:Int):Int:=mxI (-(k:Int) - 1) (mnI ((m:Int) - k - 1) off)
noncomputable def movZ:ROp->Nat->Nat
  | .MOV,_=>0
  | _,b=>b
noncomputable def imvZ:IOp->Nat->Nat
  | .MOVI,_=>0
  | _,b=>b
noncomputable def adjF (m k:Nat):Row->Row
  | .br c off=>.br c (clampF m k off)
  | .reg op a b c=>.reg op a (movZ op b) c
  | .imm op a b c=>.imm op a (imvZ op b) c
  | .mem op a c=>.mem op a c
  | .trap c n p=>.trap c n p
  | .ret c=>.ret c
theorem adj_ok {m k:Nat} {r:Row} (h:rOk r):rOk (adjF m k r):=by
  rcases r with ⟨⟨⟩,a,b,c⟩ | ⟨⟨⟩,a,b,c⟩ | uu | uu | uu | uu <;> first | exact h | exact ⟨h.1,Nat.zero_lt_succ 3,h.2.2⟩ | exact ⟨h.1,Nat.zero_lt_succ 3⟩
theorem clamp_in {m k:Nat} {off:Int} (hk:k<m):0<=(k:Int)+1+clampF m k off/\(k:Int)+1+clampF m k off<=m:=by
  have key:∀ y:Int,y<=(m:Int) - k - 1->0<=(k:Int)+1+mxI (-(k:Int) - 1) y/\(k:Int)+1+mxI (-(k:Int) - 1) y<=m:=fun y h=>by
    unfold mxI
    by_cases c:y > -(k:Int) - 1
    · rw [if_pos c]; omega
    · rw [if_neg c]; omega
  refine key _ ?_
  unfold mnI
  by_cases c:off<(m:Int) - k - 1
  · rw [if_pos c]; exact Int.le_of_lt c
  · rw [if_neg c]; exact Int.le_refl _
theorem adj_br {m k:Nat} {r:Row} {c:Cnd} {off:Int} (hk:k<m) (h:adjF m k r = .br c off):0<=(k:Int)+1+off/\(k:Int)+1+off<=m:=by
  rcases r with uu | uu | uu | ⟨c,off⟩ | uu | uu <;> first | exact (Row.brI h).2 ▸ clamp_in hk | exact nomatch h
noncomputable def lsL:List String:=["LDR", "STR"]
noncomputable def isLS (r:Row):Bool:=lsL.contains (rowName r)
theorem ls_mem {r:Row} (h:isLS r=true):∃ op a c,r = .mem op a c/\op ≠ .STB:=by
  rcases r with ⟨⟨⟩,uu,uu,uu⟩ | ⟨⟨⟩,uu,uu,uu⟩ | ⟨⟨⟩,uu,uu⟩ | uu | uu | uu <;> first | exact absurd h nFT | exact ⟨_,_,_,rfl,nofun⟩
section
variable {C:Cl} {x0 x1 x2 x3 x5:Option V} {H:AH} {Q:PO} {B:List MS} {row:Row} {n m k:Nat}
theorem name4:Ev C (.sub (.var 4) (.int 0)) [x0,x1,x2,x3,some (rowV row),x5] H (.str (rowName row)) :=
  ev_sub (ev_var rfl) ev_int (by rcases row with uu | uu | uu | uu | uu | uu <;> rfl)
theorem is4 {x:String}:EvT C (.cmp (.sub (.var 4) (.int 0)) [.eq] [.str x]) [x0,x1,x2,x3,some (rowV row),x5] H (rowName row == x):=evt_cmp name4 ev_str rfl
theorem in4 {x y:String}:EvT C (.cmp (.sub (.var 4) (.int 0)) [.isin] [.tup [.str x,.str y]]) [x0,x1,x2,x3,some (rowV row),x5] H ([x,y].contains (rowName row)) :=
  evt_cmp name4 (ev_tup (evs_cons ev_str (evs_cons ev_str evs_nil))) (anyF_strs [x,y])
theorem fit_no (h1:(rowName row == "B")=false) (h2:["MOV", "MOVI"].contains (rowName row)=false) (h:rest (CN n) B Q [x0,x1,x2,x3,some (rowV row),x5] H) :
    rest (CN n) (f_law_object_l0[1]::f_law_object_l0[2]::B) Q [x0,x1,x2,x3,some (rowV row),x5] H :=
  r_ifF CN_Mono (h1 ▸ is4) (r_ifF CN_Mono (h2 ▸ in4) h)
theorem fit_mov {v0 v1 v2 v3:V} (e:rowV row = .tup [v0,v1,v2,v3]) (h1:(rowName row == "B")=false) (h2:["MOV", "MOVI"].contains (rowName row)=true) (h:rest (CN n) B Q [x0,x1,x2,x3,some (.tup [v0,v1,.int 0,v3]),x5] H) :
    rest (CN n) (f_law_object_l0[1]::f_law_object_l0[2]::B) Q [x0,x1,x2,x3,some (rowV row),x5] H :=
  r_ifF CN_Mono (h1 ▸ is4) (r_ifT CN_Mono (h2 ▸ in4) (e ▸ r_assign (ev_tup (evs_cons (ev_sub (ev_var rfl) ev_int rfl) (evs_cons (ev_sub (ev_var rfl) ev_int rfl) (evs_cons ev_int (evs_cons (ev_sub (ev_var rfl) ev_int rfl) evs_nil))))) h))
theorem fit_br {c:Cnd} {off:Int} (h:rest (CN n) B Q [x0,some (.int m),x2,some (.int k),some (rowV (.br c (clampF m k off))),x5] H) :
    rest (CN n) (f_law_object_l0[1]::f_law_object_l0[2]::B) Q [x0,some (.int m),x2,some (.int k),some (rowV (.br c off)),x5] H:=by
  refine r_ifT CN_Mono (is4 (row:=.br c off)) (r_assign (v:=rowV (.br c (clampF m k off))) (ev_tup (evs_cons ev_str (evs_cons (at_row rfl rfl) (evs_cons (ev_bi (evs_cons (ev_bin (ev_neg (ev_var rfl)) ev_int rfl) (evs_cons (ev_bi (evs_cons (ev_bin (ev_bin (ev_var rfl) (ev_var rfl) rfl) ev_int rfl) (evs_cons (at_row rfl rfl) evs_nil)) mn_bi) evs_nil)) mx_bi) (evs_cons ev_int evs_nil))))) ?_)
  exact r_ifF CN_Mono (in4 (row:=.br c (clampF m k off))) h
theorem fit_spec (h:rest (CN n) B Q [x0,some (.int m),x2,some (.int k),some (rowV (adjF m k row)),x5] H) :
    rest (CN n) (f_law_object_l0[1]::f_law_object_l0[2]::B) Q [x0,some (.int m),x2,some (.int k),some (rowV row),x5] H:=by
  rcases row with ⟨⟨⟩,uu,uu,uu⟩ | ⟨⟨⟩,uu,uu,uu⟩ | ⟨⟨⟩,uu,uu⟩ | uu | uu | uu <;> first | exact fit_no rfl rfl h | exact fit_mov rfl rfl rfl h | exact fit_br h
end
structure RowsOK (m k:Nat) (R:List Row) (F:List Nat):Prop where
  len:R.length=k
  ok:∀ (i:Nat) r,R[i]? = some r->rOk r
  br:∀ (i:Nat) c off,R[i]? = some (.br c off)->0<=(i:Int)+1+off/\(i:Int)+1+off<=m
  fl:F.length<=k
  fix:∀ i ∈ F,∃ op a c,R[i]? = some (.mem op a c)/\op ≠ .STB
theorem noG {α:Type} {i:Nat} {x:α} {P:Prop} (h:([]:List α)[i]? = some x):P:=nomatch h
theorem RowsOK.nil {m:Nat}:RowsOK m 0 [] []:=⟨rfl,fun uu uu h=>noG h,fun uu uu uu h=>noG h,Nat.le_refl 0,List.forall_mem_nil _⟩
theorem get_snoc {α:Type} {l:List α} {x y:α} {i:Nat} {P:Prop} (h:(l ++ [x])[i]? = some y) (h1:l[i]? = some y->P) (h2:i=l.length->x=y->P):P:=by
  rcases Nat.lt_trichotomy i l.length with c | c | c
  · rw [List.getElem?_append_left c] at h; exact h1 h
  · subst c
    rw [List.getElem?_concat_length] at h
    exact h2 rfl (Option.some.inj h)
  · rw [List.getElem?_eq_none (by rw [List.length_append]; exact c)] at h; exact nomatch h
theorem get_left {α:Type} {l r:List α} {i:Nat} {x:α} (h:l[i]? = some x):(l ++ r)[i]? = some x:=by
  rw [List.getElem?_append_left (List.getElem?_eq_some_iff.mp h).1]; exact h
theorem RowsOK.add {m k:Nat} {R:List Row} {F:List Nat} {row:Row} (h:RowsOK m k R F) (hk:k<m) (hr:rOk row):RowsOK m (k+1) (R ++ [adjF m k row]) F :=
  ⟨by rw [List.length_append,h.len]; rfl,fun i r hi=>get_snoc hi (h.ok i r) fun uu e=>e ▸ adj_ok hr,
    fun i c off hi=>get_snoc hi (h.br i c off) fun e f=>by rw [h.len] at e; subst e; exact adj_br hk f,Nat.le_succ_of_le h.fl,
    fun i hi=>(h.fix i hi).elim fun op z=>z.elim fun a z=>z.elim fun c z=>⟨op,a,c,get_left z.1,z.2⟩⟩
theorem RowsOK.addF {m k:Nat} {R:List Row} {F:List Nat} {row:Row} (h:RowsOK m k R F) (hk:k<m) (hr:rOk row) (hls:isLS (adjF m k row)=true):RowsOK m (k+1) (R ++ [adjF m k row]) (F ++ [k]):=by
  have h1:=h.add hk hr
  refine ⟨h1.len,h1.ok,h1.br,by rw [List.length_append]; exact Nat.succ_le_succ h.fl,fun i hi=>(List.mem_append.mp hi).elim (h1.fix i) fun h2=>?_⟩
  obtain rfl:=List.mem_singleton.mp h2
  obtain ⟨op,a,c,e,ne⟩:=ls_mem hls
  exact ⟨op,a,c,by rw [<- h.len,List.getElem?_concat_length,h.len,e],ne⟩
theorem RowsOK.wf {m:Nat} {R:List Row} {F E:List Nat} {go body:Nat} (h:RowsOK m m R F) (hm:m<=12) (hE:∀ e ∈ E,e<m+1) (hE2:E.length<=10) (hg:go<m+1) (hb:body<m+1):WF ⟨R ++ [.ret .AL],F,E,go,body⟩:=by
  have hl:(R ++ [Row.ret .AL]).length=m+1:=by rw [List.length_append,h.len]; rfl
  have m40:m+1<=40:=Nat.le_trans (Nat.succ_le_succ hm) (by decide)
  refine ⟨hl ▸ m40,fun i rr hi=>get_snoc hi (h.ok i rr) fun uu e=>e ▸ trivial,hl ▸ hb,hl ▸ hg,hl ▸ hE,hE2,Nat.le_trans h.fl (Nat.le_trans (Nat.le_succ m) m40),fun i hi=>(h.fix i hi).elim fun op z=>z.elim fun a z=>z.elim fun c z=>⟨op,a,c,get_left z.1,z.2⟩,fun i rr hi hf=>?_,fun i c off hi=>?_⟩
  · refine get_snoc hi (fun hi=>?_) fun uu e=>absurd hf (e ▸ nFT)
    show i+1<(R ++ [Row.ret .AL]).length
    rw [hl,<- h.len]; exact Nat.succ_lt_succ (List.getElem?_eq_some_iff.mp hi).1
  · refine get_snoc hi (fun hi=>?_) fun uu e=>nomatch e
    have b:=h.br i c off hi
    show _/\_<=(((R ++ [Row.ret .AL]).length:Nat):Int)/\(_->_<(((R ++ [Row.ret .AL]).length:Nat):Int))
    rw [hl]
    have:(m:Int)<((m+1:Nat):Int):=Int.ofNat_lt.mpr (Nat.lt_succ_self m)
    exact ⟨b.1,Int.le_trans b.2 (Int.le_of_lt this),fun uu=>Int.lt_of_le_of_lt b.2 this⟩
end Mine.Wk
end
section
namespace Mine.Wk
open PySem
section
variable {C:Cl} {t e e':ME} {A B b ss:List MS} {Q:PO} {ρ:Env} {H:AH} {tg:Tgt} {n:Nat}
theorem r_ifW (hC:Mono C) (h:wpT C t ρ H fun c H₁=>rest C ((bif c then A else B) ++ ss) Q ρ H₁):rest C (.ite t A B::ss) Q ρ H:=⟨wpT_mono hC t _ _ _ _ (fun c H₁ z=>by rcases c with uu | uu <;> exact app_w hC z.w) h⟩
theorem wt_and2 {c:Bool} {K:Bool->AH->Prop} (h1:EvT C t ρ H c) (hf:c=false->K false H) (ht:c=true->wpT C e ρ H fun d H'=>K d H') (hC:Mono C):wpT C (.and [t,e]) ρ H K:=h1 _ (by
  rcases c with uu | uu
  · exact hf rfl
  · exact wpT_mono hC e _ _ _ _ (fun d H' z=>by rcases d with uu | uu <;> exact z) (ht rfl))
inductive ForR (C:Cl) (tg:Tgt) (b ss:List MS) (Q:PO) (ρ:Env) (v:V) (H:AH):Prop
  | mk (N:Nat) (e:v = .int (N:Int)) (l:N<=1000) (I:Nat->Env->AH->Prop) (hb:∀ (i:Nat) ρ H,i<N->I i ρ H->Turn C tg (.int (i:Int)) b (Body (I (i+1)) Q) ρ H) (h0:I 0 ρ H) (he:∀ ρ H,I N ρ H->rest C ss Q ρ H)
theorem r_forR (hC:Mono C) (h:wpE C e ρ H (ForR C tg b ss Q ρ)):rest C (.for_ tg (.bi "range" [e]) b::ss) Q ρ H :=
  ⟨w_bi1 hC (wpE_mono hC e _ _ _ _ (fun v H₁ z=>by
    obtain ⟨N,rfl,l,I,hb,h0,he⟩:=z
    refine ⟨_,range1 l,for_turn hC I (fun uu uu uu uu=>still_rng) (fun i v ρ H hx hI=>?_) (fun ρ H hI=>(he ρ H (by rw [rngL_len] at hI; exact hI)).w) h0⟩
    obtain ⟨rfl,hi⟩:=rngL_get hx
    rw [Int.zero_add]
    obtain ⟨ρ',e,r⟩:=hb i ρ H hi hI
    exact ⟨ρ',e,⟨wpSs_mono hC b _ _ _ _ (fun o ρ₁ H₁ z=>by rcases o with uu | uu <;> exact z) r.w⟩⟩) h)⟩
theorem r_setAW (hC:Mono C) {j a:Nat} {x:String} (ho:getV ρ j=some (.ref a)) (h:wpE C e ρ H fun v H'=>∃ H'',setAttrF (.ref a) x v H'=some H''/\rest C ss Q ρ H''):rest C (.setAttr (.var j) x e::ss) Q ρ H :=
  ⟨wpE_mono hC e _ _ _ _ (fun v H' z=>z.elim fun H'' z=>ev_var ho _ (iH z.1 z.2.w)) h⟩
theorem w_tup2 {Q:V->AH->Prop} (h:wpE C e ρ H fun v1 H1=>wpE C e' ρ H1 fun v2 H2=>Q (.tup [v1,v2]) H2):wpE C (.tup [e,e']) ρ H Q:=h
theorem w_dict1 {k:String} {K:V->AH->Prop} (h:wpE C e ρ H fun v H₁=>∀ a,H₁ a=none->K (.ref a) (H₁.set a (.ds false [(k,v)]))):wpE C (.dict [k] [e]) ρ H K:=h
theorem r_appW (hC:Mono C) {o:ME} {a:Nat} {xs:List V} (h1:Ev C o ρ H (.ref a)) (g:H a=some (.list xs)) (h:wpE C e ρ H fun v H'=>∃ ys,H' a=some (.list ys)/\ys.length<10000 /\ ∀ H'',Mut H' a (.list (ys ++ [v])) H''->rest C ss Q ρ H''):rest C (.expr (.meth o "append" [e])::ss) Q ρ H :=
  r_exprW hC (w_meth1 h1 (append_k g) (wpE_mono hC e _ _ _ _ (fun v H' z=>z.elim fun ys z=>⟨_,append_m z.1 z.2.1,z.2.2 _ .mk'⟩) h) hC)
end
noncomputable abbrev obL (A:Adr) (a:Nat) (ns:List (String × V)) (En Fx Rw:List V) (r:Nat) (L:List Int):List (Nat × AO) :=
  [(A.dx,.ns ns),(a,.inst A.dx),(A.cms,.di false []),(A.mps,.di false []),(A.pts,.list []),(A.ens,.list En),(A.fxs,.list Fx),(A.dfx,.list []),(A.wds,.list []),(A.rws,.list Rw),(A.ims,.list []),(r,intL L)]
section
variable {H0 H H':AH} {A:Adr} {a r:Nat} {ns:List (String × V)} {En Fx Rw:List V} {L L':List Int}
noncomputable abbrev ObF (H0:AH) (A:Adr) (a r:Nat) (ns:List (String × V)) (H:AH) (En Fx Rw:List V) (L:List Int):Prop:=Fa H0 H (obL A a ns En Fx Rw r L)
theorem ob_pop (f:ObF H0 A a r ns H En Fx Rw L) (p:Pop r H L H' L'):ObF H0 A a r ns H' En Fx Rw L':=Fa.chg p.k p.g [_,_,_,_,_,_,_,_,_,_,_] f
theorem ob_rws {x:V} (f:ObF H0 A a r ns H En Fx Rw L) (m:Mut H A.rws (.list (Rw ++ [x])) H'):ObF H0 A a r ns H' En Fx (Rw ++ [x]) L:=Fa.mut m [_,_,_,_,_,_,_,_,_] f
theorem ob_fxs {x:V} (f:ObF H0 A a r ns H En Fx Rw L) (m:Mut H A.fxs (.list (Fx ++ [x])) H'):ObF H0 A a r ns H' En (Fx ++ [x]) Rw L:=Fa.mut m [_,_,_,_,_,_] f
theorem ob_ens {x:V} (f:ObF H0 A a r ns H En Fx Rw L) (m:Mut H A.ens (.list (En ++ [x])) H'):ObF H0 A a r ns H' (En ++ [x]) Fx Rw L:=Fa.mut m [_,_,_,_,_] f
theorem ob_r (f:ObF H0 A a r ns H En Fx Rw L):H r=some (intL L):=f.at (i:=11) rfl
end
inductive OjI (H0:AH) (A:Adr) (a r m:Nat) (k:Nat) (ρ:Env) (H:AH):Prop
  | mk (x3 x4:Option V) (R:List Row) (F:List Nat) (L:List Int) (hρ:ρ = [some (.ref r),some (.int m),some (.ref a),x3,x4,none]) (fa:ObF H0 A a r (nsOf A 0 0) H [] (F.map fixV) (R.map rowV) L) (ok:RowsOK m k R F) (l:L.length<=1000)
theorem obj_turn {n m k:Nat} {H0 H:AH} {A:Adr} {a r:Nat} {ρ:Env} {Q:PO} (hm:m<=12) (hk:k<m) (h:OjI H0 A a r m k ρ H):Turn (CN (n+2)) (.one 3) (.int k) f_law_object_l0 (Body (OjI H0 A a r m (k+1)) Q) ρ H:=by
  obtain ⟨x3,x4,R,F,L,rfl,fa,ok,hL⟩:=h
  have lt:∀ {i:Nat},i<=k->i<10000:=fun h=>Nat.lt_of_le_of_lt h (Nat.lt_trans hk (Nat.lt_of_le_of_lt hm (by decide)))
  refine ⟨_,rfl,r_assignW CN_Mono (w_call (evs_cons (ev_var rfl) (evs_cons (ev_var rfl) evs_nil)) (made_spec (ob_r fa) hL (Nat.le_trans hm (by decide)) fun row H3 L3 p3 hrow=>fit_spec ?_))⟩
  have fa:=ob_pop fa p3
  have hL3:=Nat.le_trans p3.l hL
  refine r_append (ev_attr (ev_var rfl) (Fa.attr fa rfl)) (fa.at (i:=9) rfl) (by rw [List.length_map]; exact lt (Nat.le_of_eq ok.len)) (ev_var rfl) fun H4 m4=>?_
  have fa:=ob_rws fa m4
  rw [map_one] at fa
  refine r_ifW CN_Mono (wt_and2 (c:=isLS (adjF m k row)) in4 (fun uu=>rest_nil ⟨_,_,_,F,_,rfl,fa,ok.add hk hrow,hL3⟩) (fun hls=>wt_cmp CN_Mono (w_nmod (k:=6) (by decide) rfl (ob_r fa) hL3 fun y H5 L5 p5 hy=>⟨_,(y:Int) == 5,ev_int,rfl,?_⟩)) CN_Mono)
  have fa:=ob_pop fa p5
  have hL5:=Nat.le_trans p5.l hL3
  rcases (y:Int) == 5 with uu | uu
  · exact rest_nil ⟨_,_,_,F,_,rfl,fa,ok.add hk hrow,hL5⟩
  · refine r_append (ev_attr (ev_var rfl) (Fa.attr fa rfl)) (fa.at (i:=6) rfl) (by rw [List.length_map]; exact lt ok.fl) (ev_tup (evs_cons (ev_var rfl) (evs_cons ev_str (evs_cons ev_int (evs_cons ev_int evs_nil))))) fun H6 m6=>rest_nil ⟨_,_,_,F ++ [k],_,rfl,?_,ok.addF hk hrow hls,hL5⟩
    have fa:=ob_fxs fa m6
    rw [<- map_one]
    exact fa
theorem Fa.setK {H0 H:AH} {a dx:Nat} {kvs:List (String × V)} {L:List (Nat × AO)} {x:String} {v:V} (fa:Fa H0 H ((dx,.ns kvs)::(a,.inst dx)::L)):Fa H0 (H.set dx (.ns (dset kvs x v))) ((dx,.ns (dset kvs x v))::(a,.inst dx)::L):=Fa.mut .mk' [] fa
inductive OeI (H0:AH) (A:Adr) (a r m:Nat) (Fx Rw:List V) (x3 x4:Option V) (k:Nat) (ρ:Env) (H:AH):Prop
  | mk (x5:Option V) (E:List Nat) (L:List Int) (hρ:ρ = [some (.ref r),some (.int m),some (.ref a),x3,x4,x5]) (fa:ObF H0 A a r (nsOf A 128 0) H (E.map entV) Fx Rw L) (l:E.length=k) (lt:∀ e ∈ E,e<m+1) (hl:L.length<=1000)
theorem ent_turn {n m k:Nat} {H0 H:AH} {A:Adr} {a r:Nat} {Fx Rw:List V} {x3 x4:Option V} {ρ:Env} {Q:PO} (hk:k<3) (h:OeI H0 A a r m Fx Rw x3 x4 k ρ H):Turn (CN (n+1)) (.one 5) (.int k) f_law_object_l1 (Body (OeI H0 A a r m Fx Rw x3 x4 (k+1)) Q) ρ H:=by
  obtain ⟨x5,E,L,rfl,fa,hl,lt,hL⟩:=h
  refine ⟨_,rfl,r_appW CN_Mono (ev_attr (ev_var rfl) (Fa.attr fa rfl)) (fa.at (i:=5) rfl) (w_tup2 (ev_str _ (w_nmodv rfl rfl (ob_r fa) hL fun y H7 L7 p7 hy=>?_)))⟩
  have fa:=ob_pop fa p7
  refine ⟨_,fa.at (i:=5) rfl,by rw [List.length_map,hl]; exact Nat.lt_trans hk (by decide),fun H8 m8=>rest_nil ⟨_,E ++ [y],L7,rfl,?_,by rw [List.length_append,hl]; rfl,all_app lt hy,Nat.le_trans p7.l hL⟩⟩
  rw [<- map_one]
  exact ob_ens fa m8
theorem object_spec {n:Nat} {H:AH} {Q:V->AH->Prop} {r:Nat} {L:List Int} (hr:H r=some (intL L)) (hl:L.length<=1000) {H0:AH} (f0:Fa H0 H [(r,intL L)])
    (q:∀ a A H' L' o,Ext H0 H'->ObjAt H' a A o->H' r=some (intL L')->L'.length<=1000->WF o->Q (.ref a) H'):CN (n+3) "_law_object" [.ref r] H Q:=by
  refine call_of rfl rfl (r_assignW CN_Mono (w_nmod (k:=13) (by decide) rfl hr hl fun m H1 L1 p1 hm=>?_))
  have f1:Fa H0 H1 [(r,intL L1)]:=Fa.chg p1.k p1.g [] f0
  have hl1:=Nat.le_trans p1.l hl
  have hm12:m<=12:=Nat.le_of_lt_succ hm
  refine r_assignW CN_Mono (new_specL f1 (fun a A H2 fa=>?_) (evs_cons ev_str (evs_cons ev_int evs_nil)))
  refine r_for CN_Mono (ev_bi (evs_cons (ev_var rfl) evs_nil) (range1 (Nat.le_trans hm12 (by decide)))) keys_rng iter_rng (OjI H0 A a r m) (fun uu uu uu uu=>still_rng) (fun k v ρ H' hv h=>?_) ⟨_,_,[],[],L1,rfl,fa,RowsOK.nil,hl1⟩ fun ρ H' h=>?_
  · obtain ⟨rfl,hk⟩:=rngL_get hv
    rw [Int.zero_add]
    exact obj_turn hm12 hk h
  obtain ⟨x3,x4,R,F,L2,rfl,fa,ok,hL2⟩:=h
  have ok:RowsOK m m R F:=by rw [rngL_len] at ok; exact ok
  refine r_append (v:=rowV (.ret .AL)) (ev_attr (ev_var rfl) (Fa.attr fa rfl)) (fa.at (i:=9) rfl) (by rw [List.length_map,ok.len]; exact Nat.lt_of_le_of_lt hm12 (by decide)) (ev_tup (evs_cons ev_str (evs_cons ev_str (evs_cons ev_int (evs_cons ev_int evs_nil))))) fun H4 m4=>?_
  have fa:=ob_rws fa m4
  rw [map_one] at fa
  refine r_setVal fa ev_int rfl fun H5 fa=>r_forR CN_Mono (w_nmod (k:=3) (by decide) rfl (ob_r fa) hL2 fun en H6 L6 p6 hen=>?_)
  refine ⟨en,rfl,Nat.le_trans (Nat.le_of_lt hen) (by decide),OeI H0 A a r m (F.map fixV) ((R ++ [Row.ret .AL]).map rowV) x3 x4,fun k ρ H hk h=>ent_turn (Nat.lt_trans hk hen) h,⟨_,[],L6,rfl,ob_pop fa p6,rfl,List.forall_mem_nil _,Nat.le_trans p6.l hL2⟩,fun ρ H7 h=>?_⟩
  obtain ⟨x5,E,L7,rfl,fa,hE,hE2,hL7⟩:=h
  refine r_append (v:=datV) (ev_attr (ev_var rfl) (Fa.attr fa rfl)) (fa.at (i:=5) rfl) (by rw [List.length_map,hE]; exact Nat.lt_trans hen (by decide)) (ev_tup (evs_cons ev_str (evs_cons ev_int evs_nil))) fun H8 m8=>?_
  have fa:=ob_ens fa m8
  refine r_setAW CN_Mono rfl (w_dict1 (w_nmodv rfl rfl (ob_r fa) hL7 fun go H9 L9 p9 hgo cms hc=>?_))
  have fa:=ob_pop fa p9
  have fa:=(fa.new ((New.mk' (ob:=.ds false [("Go",.int go)]) hc).made .rfl)).turn
  refine ⟨_,fa.setA,r_setAW CN_Mono rfl (w_nmodv rfl rfl (fa.setK.at (i:=12) rfl) (Nat.le_trans p9.l hL7) fun body H11 L11 p11 hbody=>?_)⟩
  have fa:=Fa.chg p11.k p11.g [_,_,_,_,_,_,_,_,_,_,_,_] fa.setK
  refine ⟨_,Fa.setA fa,r_ret (ev_var rfl) ?_⟩
  have fa:=Fa.setK (x := "body") (v:=.int body) fa
  exact q a ⟨A.dx,A.ims,A.rws,A.wds,A.dfx,A.fxs,A.ens,A.pts,A.mps,cms⟩ _ L11 ⟨R ++ [Row.ret .AL],F,E,go,body⟩ fa.e ⟨fa.at (i:=1) rfl,fa.at (i:=0) rfl,fa.at (i:=11) rfl,fa.at (i:=10) rfl,fa.at (i:=9) rfl,fa.at (i:=8) rfl,fa.at (i:=7) rfl,fa.at (i:=6) rfl,fa.at (i:=5) rfl,fa.at (i:=4) rfl,fa.at (i:=2) rfl⟩ (fa.at (i:=12) rfl) (Nat.le_trans p11.l (Nat.le_trans p9.l hL7)) (ok.wf hm12 hE2 (hE ▸ Nat.le_trans (Nat.le_of_lt hen) (by decide)) hgo hbody)
end Mine.Wk
end
section
namespace Mine.Wk
open PySem
noncomputable def AOp.s:AOp->String | .MOV => "MOV" | .ADD => "ADD" | .SUB => "SUB" | .IOR => "IOR" | .LSL => "LSL"
noncomputable def marksV (m:Marks):List V:=[.bool m.1,.bool m.2.1,.bool m.2.2.1,.bool m.2.2.2]
section
variable {C:Cl} {ρ:Env} {H:AH} {a b c:ME} {x y z:V} {c1 c2:Bool} {o1 o2:COp}
theorem wpc2 (h2:Ev C b ρ H y) (h3:Ev C c ρ H z) (e1:cmpF o1 x y H=some c1) (e2:cmpF o2 y z H=some c2) (Q:Bool->AH->Prop) (q:Q (c1 && c2) H):wpC C x [o1,o2] [b,c] ρ H Q:=by
  refine h2 _ ?_
  rw [e1]
  rcases c1 with uu | uu
  · exact q
  · exact h3 _ (iB e2 q)
theorem ev_cmp2 (h1:Ev C a ρ H x) (h2:Ev C b ρ H y) (h3:Ev C c ρ H z) (e1:cmpF o1 x y H=some c1) (e2:cmpF o2 y z H=some c2):Ev C (.cmp a [o1,o2] [b,c]) ρ H (.bool (c1 && c2)):=fun Q q=>h1 _ (wpc2 h2 h3 e1 e2 _ q)
theorem evt_cmp2 (h1:Ev C a ρ H x) (h2:Ev C b ρ H y) (h3:Ev C c ρ H z) (e1:cmpF o1 x y H=some c1) (e2:cmpF o2 y z H=some c2):EvT C (.cmp a [o1,o2] [b,c]) ρ H (c1 && c2):=fun Q q=>h1 _ (wpc2 h2 h3 e1 e2 _ q)
theorem w_tup3 {Q:V->AH->Prop} (h:wpE C a ρ H fun v1 H1=>wpE C b ρ H1 fun v2 H2=>wpE C c ρ H2 fun v3 H3=>Q (.tup [v1,v2,v3]) H3):wpE C (.tup [a,b,c]) ρ H Q:=h
end
theorem plus_ev {n:Nat} {H:AH} {w:Int}:EvF (CN (n+1)) "_law_plus" [.int w] H (.int (plusF w)):=fun Q q=>by
  have t:EvT (CN n) (.cmp (.var 0) [.ge] [.bin .pow (.int 2) (.int 31)]) [some (.int w)] H (decide (w ≥ 2147483648)):=evt_cmp (ev_var rfl) pow31_at rfl
  refine call_of rfl rfl (r_ret (v:=.int (plusF w)) ?_ q)
  unfold plusF
  rcases hd:decide (w ≥ 2147483648) with uu | uu <;> rw [hd] at t
  · rw [if_neg (of_decide_eq_false hd)]; exact ev_iteF t (ev_var rfl)
  · rw [if_pos (of_decide_eq_true hd)]; exact ev_iteT t (ev_bin (ev_var rfl) pow32_at rfl)
section
variable {n:Nat} {H:AH} {Q:V->AH->Prop} {x0 x1 x2 x3 x4 x5:Option V} {f x y:Int} {cy ov:Bool} {op:AOp}
noncomputable def ActQ (op:AOp) (x y:Int) (H:AH) (Q:V->AH->Prop):Prop:=∀ z H',New H z (.list (marksV (actF op x y).2)) H'->Q (.tup [.int (actF op x y).1,.ref z,.none]) H'
theorem act_end (hf:f=foundF op x y) (hc:cy=carryF op x y) (ho:ov=overF op x y) (q:ActQ op x y H Q) :
    rest (CN n) (f_law_act.body.drop 7) (fun o uu H'=>Q o.val H') [x0,x1,x2,x3,x4,x5,some (.bool ov),some (.bool cy),some .none,some (.int f)] H:=by
  subst hf; subst hc; subst ho
  exact r_assign (ev_bin (ev_var rfl) pow32_at (bF_mod (by decide))) (r_retW (w_tup3 (ev_var rfl _ (evn_list (evs_cons (ev_cmp (ev_var rfl) pow31_at rfl) (evs_cons (ev_cmp (ev_var rfl) ev_int rfl) (evs_cons (ev_var rfl) (evs_cons (ev_var rfl) evs_nil)))) _ fun z hz=>ev_var rfl _ (q z _ (.mk' hz))))))
theorem over_at {a b:ME} {s:Int} {ρ:Env} (h:Ev (CN n) (.bin .add a b) ρ H (.int s)):Ev (CN n) (.not (.cmp (.neg (.bin .pow (.int 2) (.int 31))) [.le,.lt] [.bin .add a b,.bin .pow (.int 2) (.int 31)])) ρ H (.bool (!inS s)) :=
  ev_not (ev_cmp2 (ev_neg pow31_at) h pow31_at rfl rfl) rfl
theorem over_at' {a b:ME} {s:Int} {ρ:Env} (h:Ev (CN n) (.bin .sub a b) ρ H (.int s)):Ev (CN n) (.not (.cmp (.neg (.bin .pow (.int 2) (.int 31))) [.le,.lt] [.bin .sub a b,.bin .pow (.int 2) (.int 31)])) ρ H (.bool (!inS s)) :=
  ev_not (ev_cmp2 (ev_neg pow31_at) h pow31_at rfl rfl) rfl
theorem pow_nat {b k m:Nat} (h:k<=m) (hm:b ^ m<18446744073709551616) (hb:0<b):small ((b:Int) ^ k)=true:=by
  rw [<- Int.natCast_pow]
  exact small_nat (Nat.lt_of_le_of_lt (Nat.pow_le_pow_right hb h) hm)
theorem small_of {i:Int} (h:0<=i/\i<4294967296):small i=true:=by
  obtain ⟨k,rfl⟩:=Int.eq_ofNat_of_zero_le h.1
  exact small_nat (Nat.lt_trans (Int.ofNat_lt.mp h.2) (by decide))
theorem mod_nat {y k:Int} (h:0<k):∃ j:Nat,y.fmod k=j/\(j:Int)<k:=by
  obtain ⟨j,hj⟩:=Int.eq_ofNat_of_zero_le (Int.fmod_nonneg_of_pos y h)
  exact ⟨j,hj,hj ▸ Int.fmod_lt_of_pos y h⟩
theorem act_mid (hx:0<=x/\x<4294967296) (q:ActQ op x y H Q) :
    rest (CN (n+1)) (f_law_act.body.drop 6) (fun o uu H'=>Q o.val H') [some (.str op.s),some (.int x),some (.int y),some (.int (plusF x)),some (.int (plusF y)),some (.int (y.fmod 32)),some (.bool false),some (.bool false),some .none,none] H:=by
  rcases op with uu | uu | uu | uu | uu
  · exact r_ifT CN_Mono (nm_t rfl rfl) (r_assign (ev_var rfl) (act_end rfl rfl rfl q))
  · exact r_ifF CN_Mono (nm_t rfl rfl) (r_ifT CN_Mono (nm_t rfl rfl) (r_assign (add_at (ev_var rfl) (ev_var rfl)) (r_assign (ev_cmp (ev_var rfl) pow32_at rfl) (r_assign (over_at (add_at (ev_var rfl) (ev_var rfl))) (act_end rfl rfl rfl q)))))
  · exact r_ifF CN_Mono (nm_t rfl rfl) (r_ifF CN_Mono (nm_t rfl rfl) (r_ifT CN_Mono (nm_t rfl rfl) (r_assign (ev_bin (ev_var rfl) (ev_var rfl) bF_sub) (r_assign (ev_cmp (ev_var rfl) (ev_var rfl) rfl) (r_assign (over_at' (ev_bin (ev_var rfl) (ev_var rfl) bF_sub)) (act_end rfl rfl rfl q))))))
  · exact r_ifF CN_Mono (nm_t rfl rfl) (r_ifF CN_Mono (nm_t rfl rfl) (r_ifF CN_Mono (nm_t rfl rfl) (r_ifF CN_Mono (nm_t rfl rfl) (r_ifF CN_Mono (nm_t rfl rfl) (r_ifF CN_Mono (nm_t rfl rfl) (r_ifF CN_Mono (nm_t rfl rfl) (r_ifF CN_Mono (nm_t rfl rfl) (r_ifF CN_Mono (nm_t rfl rfl) (r_ifF CN_Mono (nm_t rfl rfl)
      (r_assign (ev_iteT (nm_t rfl rfl) (ev_bin (ev_var rfl) (ev_var rfl) bF_lor)) (act_end rfl rfl rfl q)))))))))))
  · obtain ⟨j,hj,h1⟩:=mod_nat (y:=y) (k:=32) (by decide)
    have h1:j<32:=Int.ofNat_lt.mp h1
    have e:foundF .LSL x y=x*2 ^ j:=by rw [foundF,hj]; rfl
    rw [hj]
    exact r_ifF CN_Mono (nm_t rfl rfl) (r_ifF CN_Mono (nm_t rfl rfl) (r_ifF CN_Mono (nm_t rfl rfl) (r_ifF CN_Mono (nm_t rfl rfl) (r_ifF CN_Mono (nm_t rfl rfl) (r_ifT CN_Mono (nm_t rfl rfl)
      (r_assign (ev_bin (ev_var rfl) (ev_bin ev_int (ev_var rfl) (bF_pow ⟨Int.natCast_nonneg j,Int.ofNat_le.mpr (Nat.le_trans (Nat.le_of_lt h1) (by decide))⟩ (by decide))) (bF_mul (small_of hx) (pow_nat (b:=2) (Nat.le_of_lt h1) (by decide) (by decide)))) (act_end e.symm rfl rfl q)))))))
theorem act_spec (hx:0<=x/\x<4294967296) (q:ActQ op x y H Q):CN (n+2) "_law_act" [.str op.s,.int x,.int y] H Q :=
  call_of rfl rfl (r_assign (ev_call (evs_cons (ev_var rfl) evs_nil) plus_ev) (r_assign (ev_call (evs_cons (ev_var rfl) evs_nil) plus_ev) (r_assign (mod_at (ev_var rfl) (by decide)) (r_assign ev_bool (r_assign ev_bool (r_assign ev_none (act_mid hx q)))))))
end
end Mine.Wk
end
section
namespace Mine.Wk
open PySem
noncomputable def Bytes (C:List (Int × V)):Prop:=∀ k v,dget C k=some v->∃ i:Int,v = .int i/\0<=i/\i<256
structure Byte (C:List (Int × V)) (k:Int):Prop where
  e:(dget C k).getD (.int 0) = .int (cellI C k)
  l:0<=cellI C k
  h:cellI C k<256
theorem byte_at {C:List (Int × V)} (h:Bytes C) (k:Int):Byte C k:=by
  rcases e:dget C k with uu | v
  · have z:cellI C k=0:=by unfold cellI; rw [e]
    exact ⟨by rw [e,z]; rfl,Int.le_of_eq z.symm,by rw [z]; decide⟩
  · obtain ⟨i,rfl,h1,h2⟩:=h k v e
    have z:cellI C k=i:=by unfold cellI; rw [e]
    exact ⟨by rw [e,z]; rfl,z.symm ▸ h1,z.symm ▸ h2⟩
theorem abs_lt {i m:Int} {k:Nat} (h0:0<=i) (h1:i<m) (hk:m<=(k:Int)):i.natAbs<k:=by
  obtain ⟨j,rfl⟩:=Int.eq_ofNat_of_zero_le h0
  exact Int.ofNat_lt.mp (Int.lt_of_lt_of_le h1 hk)
theorem byte_mul {c p:Int} (hp:0<=p) (hp2:p<=16777216) (h0:0<=c) (h1:c<256):decide ((c*p).natAbs<1099511627776)=true :=
  decide_eq_true (abs_lt (m:=4294967297) (Int.mul_nonneg h0 hp) (Int.lt_add_one_of_le (Int.mul_le_mul (Int.le_of_lt h1) hp2 hp (by decide))) (by decide))
section
variable {n:Nat} {H:AH} {Q:V->AH->Prop} {cl:Nat} {fz:Bool} {C:List (Int × V)} {a:Int}
noncomputable def gotE:ME:=.bin .mul (.meth (.var 3) "get" [.bin .add (.var 2) (.var 1),.int 0]) (.bin .pow (.int 256) (.var 1))
theorem got_item (hC:H cl=some (.di fz C)) (hc:Bytes C) {i:Nat} {x0:Option V} (hi:i<=3):Ev (CN n) gotE [x0,some (.int (i:Int)),some (.int a),some (.ref cl)] H (.int (cellI C (a+i)*256 ^ i)):=by
  have b:=byte_at hc (a+i)
  refine ev_bin (ev_meth (ev_var rfl) (get_k hC) (evs_cons (add_at (ev_var rfl) (ev_var rfl)) (evs_cons ev_int evs_nil)) ((get_m hC).trans (congrArg (fun v=>some (v,H)) b.e))) (ev_bin ev_int (ev_var rfl) (bF_pow ⟨Int.natCast_nonneg i,Int.ofNat_le.mpr (Nat.le_trans hi (by decide))⟩ (by decide))) (bF_mul (small_of ⟨b.l,Int.lt_trans b.h (by decide)⟩) ?_)
  exact pow_nat (b:=256) hi (by decide) (by decide)
noncomputable def gotI (C:List (Int × V)) (a:Int) (k:Nat):List V:=(List.range k).map fun i:Nat=>V.int (cellI C (a+i)*256 ^ i)
inductive GoI (H:AH) (cl:Nat) (C:List (Int × V)) (a:Int) (k:Nat) (ρ:Env) (H':AH) (acc:List V):Prop
  | mk (x0 x1:Option V) (hρ:ρ = [x0,x1,some (.int a),some (.ref cl)]) (e:H'=H) (ha:acc=gotI C a k)
theorem gotI_succ {k:Nat}:gotI C a k ++ [.int (cellI C (a+k)*256 ^ k)]=gotI C a (k+1):=by rw [gotI,gotI,List.range_succ,List.map_append]; rfl
theorem got_sum {z:Nat} (hc:Bytes C) (g:H z=some (.list (gotI C a 4))):biF "sum" [.ref z] H=some (.val (.int (gotF C a))):=by
  have b0:=byte_at hc (a+(0:Nat))
  have b1:=byte_at hc (a+(1:Nat))
  have b2:=byte_at hc (a+(2:Nat))
  have b3:=byte_at hc (a+(3:Nat))
  have all:([cellI C (a+(0:Nat))*256 ^ 0,cellI C (a+(1:Nat))*256 ^ 1,cellI C (a+(2:Nat))*256 ^ 2,cellI C (a+(3:Nat))*256 ^ 3].all fun i=>decide (i.natAbs<1099511627776))=true :=
    Bool.and_eq_true_iff.mpr ⟨byte_mul (p:=256 ^ 0) (by decide) (by decide) b0.l b0.h,Bool.and_eq_true_iff.mpr ⟨byte_mul (p:=256 ^ 1) (by decide) (by decide) b1.l b1.h,Bool.and_eq_true_iff.mpr ⟨byte_mul (p:=256 ^ 2) (by decide) (by decide) b2.l b2.h,Bool.and_eq_true_iff.mpr ⟨byte_mul (p:=256 ^ 3) (by decide) (by decide) b3.l b3.h,rfl⟩⟩⟩⟩
  show (listAt H z).bind _=_
  refine bind_of (listAt_of g) (bind_of (x:=[cellI C (a+(0:Nat))*256 ^ 0,cellI C (a+(1:Nat))*256 ^ 1,cellI C (a+(2:Nat))*256 ^ 2,cellI C (a+(3:Nat))*256 ^ 3]) rfl ((if_pos ⟨all,Nat.le_of_ble_eq_true rfl⟩).trans ?_))
  rw [show a+((0:Nat):Int)=a from Int.add_zero a]; rfl
theorem got_spec (hC:H cl=some (.di fz C)) (hc:Bytes C) (q:∀ H',Ext H H'->Q (.int (gotF C a)) H'):CN (n+1) "_law_got" [.ref cl,.int a] H Q:=by
  refine call_of rfl rfl (r_retW (w_bi1 CN_Mono (w_comp (all:=rngL 0 4) CN_Mono (ev_bi (evs_cons ev_int evs_nil) (range1 (n:=4) (by decide))) iter_rng (GoI H cl C a) (fun uu uu uu uu uu=>still_rng) ?_ ⟨_,_,rfl,rfl,rfl⟩ ?_)))
  · rintro i x ρ H' acc hx ⟨x0,x1,rfl,rfl,rfl⟩
    obtain ⟨rfl,hi⟩:=rngL_get hx
    have hi:i<4:=hi
    rw [Int.zero_add]
    exact .take _ rfl (fun uu q=>q) (by rw [gotI,List.length_map,List.length_range]; exact Nat.lt_trans hi (by decide)) (got_item hC hc (Nat.le_of_lt_succ hi) _ ⟨_,_,rfl,rfl,gotI_succ⟩)
  · rintro ρ H' acc ⟨x0,x1,rfl,rfl,rfl⟩ z H'' N
    exact ⟨_,got_sum hc N.g,q _ N.e⟩
end
noncomputable def allNames:List String:=["MI", "EQ", "CS", "VS", "LS", "LT", "LE", "AL", "PL", "NE", "CC", "VC", "HI", "GE", "GT", "NV"]
noncomputable def cndIx:Cnd->Nat | .AL=>7 | .EQ=>1 | .NE=>9 | .LT=>5 | .GE=>13 | .NV=>15 | .HI=>12
noncomputable def foundL (m:Marks):List Bool:=[m.1,m.2.1,m.2.2.1,m.2.2.2,m.2.2.1 || m.2.1,m.1 != m.2.2.2,m.2.1 || (m.1 != m.2.2.2),true]
theorem holds_found {c:Cnd} {m:Marks}:(bif decide (((cndIx c:Nat):Int)<8) then (foundL m).getD (cndIx c % 8) false else !(foundL m).getD (cndIx c % 8) false)=holdsF c m:=by rcases c with ⟨⟩ <;> rfl
section
variable {n:Nat} {H:AH} {Q:V->AH->Prop} {ρ:Env} {C:Cl}
theorem or_bool {a b:ME} {x y:Bool} (h1:Ev C a ρ H (.bool x)) (h2:Ev C b ρ H (.bool y)):Ev C (.or [a,b]) ρ H (.bool (x || y)):=fun Q q=>h1 _ (by
  rcases x with uu | uu
  · exact h2 _ q
  · exact q)
theorem index_k {a:Nat} {xs:List V} (h:H a=some (.list xs)):kindM (.ref a) "index" H=true:=congrArg (kindO "index") h
theorem w_subL {es:List ME} {i:ME} {vs:List V} {k:Nat} {v:V} (hes:Evs C es ρ H vs) (h2:∀ H',Ev C i ρ H' (.int (k:Int))) (hv:vs[k]? = some v) (hk:k<100000) (q:∀ z H',New H z (.list vs) H'->Q v H'):wpE C (.sub (.list es) i) ρ H Q :=
  hes _ fun z hz=>h2 _ _ (iV (sub_nth set_same hv hk) (q z _ (.mk' hz)))
theorem ix_at {a:Nat} {c:Cnd} (g:H a=some (.list (allNames.map V.str))):methF (.ref a) "index" [.str c.s] H=some (.int (cndIx c:Nat),H):=(congrArg (methO H a "index" [.str c.s]) g).trans (by rcases c with ⟨⟩ <;> rfl)
theorem holds_spec {mk:Nat} {c:Cnd} {m:Marks} (hm:H mk=some (.list (marksV m))) (q:∀ H',Ext H H'->Q (.bool (holdsF c m)) H'):CN (n+1) "_law_holds" [.str c.s,.ref mk] H Q:=by
  have hu:unpackF (.ref mk) 4 H=some (marksV m):=bind_of (listAt_of hm) rfl
  refine call_of rfl rfl (r_unpack (ev_var rfl) hu (r_new (evn_list (evs_strs (xs:=allNames))) fun nm H1 N1=>r_methA (ev_var rfl) (index_k N1.g) (evs_cons (ev_var rfl) evs_nil) (ix_at N1.g) ?_).w)
  have ne:∀ {x y:Bool} {i j:Nat} {ρ:Env} {H:AH},getV ρ i=some (.bool x)->getV ρ j=some (.bool y)->Ev (CN n) (.cmp (.var i) [.ne] [.var j]) ρ H (.bool (x != y)):=fun h1 h2=>ev_cmp (ev_var h1) (ev_var h2) rfl
  have hfm:(((cndIx c:Nat):Int).fmod 8)=((cndIx c % 8:Nat):Int):=by rcases c with ⟨⟩ <;> rfl
  have hg:((foundL m).map V.bool)[cndIx c % 8]? = some (.bool ((foundL m).getD (cndIx c % 8) false)):=by rcases c with ⟨⟩ <;> rfl
  refine r_assignW CN_Mono (w_subL (vs:=(foundL m).map V.bool) (evs_cons (ev_var rfl) (evs_cons (ev_var rfl) (evs_cons (ev_var rfl) (evs_cons (ev_var rfl) (evs_cons (or_bool (ev_var rfl) (ev_var rfl)) (evs_cons (ne rfl rfl) (evs_cons (or_bool (ev_var rfl) (ne rfl rfl)) (evs_cons ev_bool evs_nil)))))))) (fun H'=>hfm ▸ mod_at (ev_var rfl) (by decide)) hg (Nat.lt_trans (Nat.mod_lt _ (by decide)) (by decide)) fun z H2 N2=>?_)
  have hq:=q _ (N1.e.trans N2.e)
  rw [<- holds_found] at hq
  have t:EvT (CN n) (.cmp (.var 7) [.lt] [.int 8]) [some (.str c.s),some (.ref mk),some (.bool m.1),some (.bool m.2.1),some (.bool m.2.2.1),some (.bool m.2.2.2),some (.ref nm),some (.int (cndIx c:Nat)),some (.bool ((foundL m).getD (cndIx c % 8) false))] H2 (decide (((cndIx c:Nat):Int)<8)):=evt_cmp (ev_var rfl) ev_int rfl
  rcases hd:decide (((cndIx c:Nat):Int)<8) with uu | uu <;> rw [hd] at t hq
  · exact r_ret (ev_iteF t (ev_not (ev_var rfl) rfl)) hq
  · exact r_ret (ev_iteT t (ev_var rfl)) hq
end
end Mine.Wk
end
section
namespace Mine.Wk
open PySem
section
variable {C:Cl} {e o b:ME} {Q:PO} {ss:List MS} {ρ:Env} {H:AH} {x y v:V} {vs:List V} {i:Nat} {c d:Bool}
inductive SetR (C:Cl) (o b:ME) (ss:List MS) (Q:PO) (ρ:Env) (v:V) (H:AH):Prop
  | mk (x y:V) (H':AH) (h1:Ev C o ρ H x) (h2:Ev C b ρ H y) (h:storeF x y v H=some H') (k:rest C ss Q ρ H')
theorem r_setSubW (hC:Mono C) (h:wpE C e ρ H (SetR C o b ss Q ρ)):rest C (.setSub o b e::ss) Q ρ H:=⟨wpE_mono hC e _ _ _ _ (fun v H₁ z=>by
  obtain ⟨x,y,H',h1,h2,h,k⟩:=z
  exact h1 _ (h2 _ (iH h k.w))) h⟩
theorem r_unpackW (hC:Mono C) {ts:List MT} (h:wpE C e ρ H fun v H₁=>∃ vs,unpackF v ts.length H₁ = some vs/\wpTs C ts vs ρ H₁ fun ρ₁ H₂=>wpSs C ss ρ₁ H₂ Q):rest C (.unpack ts e::ss) Q ρ H :=
  ⟨wpE_mono hC e _ _ _ _ (fun v H₁ z=>z.elim fun vs z=>iL z.1 z.2) h⟩
theorem wts_sub {ts:List MT} {H':AH} {K:Env->AH->Prop} (h1:Ev C o ρ H x) (h2:Ev C b ρ H y) (h:storeF x y v H=some H') (k:wpTs C ts vs ρ H' K):wpTs C (.sub o b::ts) (v::vs) ρ H K:=h1 _ (h2 _ (iH h k))
theorem in_strs {xs:List String} {s:String} (h:getV ρ i=some (.str s)) (k:xs.contains s=c):EvT C (.cmp (.var i) [.isin] [.tup (xs.map ME.str)]) ρ H c:=k ▸ evt_cmp (ev_var h) (ev_tup evs_strs) (anyF_strs xs)
end
noncomputable def machD (rg cl rw mk:Nat) (pc:Int):List (String × V):=[("regs",.ref rg),("cells",.ref cl),("rows",.ref rw),("pc",.int pc),("size",.int 4096),("high",.int 0),("marks",.ref mk)]
noncomputable abbrev MachF (H0:AH) (mach rg cl rw:Nat) (H:AH) (mk:Nat) (pc:Int) (regs:List Int) (cells:List (Int × V)) (marks:Marks):Prop :=
  Fa H0 H [(mk,.list (marksV marks)),(mach,.ds false (machD rg cl rw mk pc)),(rg,.list (regs.map V.int)),(cl,.di false cells)]
noncomputable abbrev MachM (H0:AH) (mach rg cl rw:Nat) (H:AH) (mk:Nat) (m:M):Prop:=MachF H0 mach rg cl rw H mk m.pc m.regs m.cells m.marks
noncomputable def trapV:Option (Int × Int)->V
  | Option.none=>.none
  | some (a,b)=>.tup [.str "trap",.int a,.int b]
theorem Fa.drop2 {H0 H:AH} {p q:Nat × AO} {L:List (Nat × AO)} (h:Fa H0 H (p::q::L)):Fa H0 H (p::L) where
  e:=h.e
  f x hx:=h.f x ((List.mem_cons.mp hx).elim (fun e=>e ▸ .head _) fun hx=>.tail _ (.tail _ hx))
  nd:=List.nodup_cons.mpr ⟨fun hx=>(List.nodup_cons.mp h.nd).1 (.tail _ hx),(List.nodup_cons.mp (List.nodup_cons.mp h.nd).2).2⟩
  fr x hx:=h.fr x ((List.mem_cons.mp hx).elim (fun e=>e ▸ .head _) fun hx=>.tail _ (.tail _ hx))
section
variable {n:Nat} {H0 H:AH} {Q:V->AH->Prop} {mach rg cl rw mk:Nat} {R:List Row} {m:M} {r:Row} {pc:Int} {regs:List Int} {cells:List (Int × V)} {marks:Marks} {C:Cl} {ρ:Env} {e:ME} {x:String} {i b:Nat}
theorem fld_at {v:V} (fa:MachF H0 mach rg cl rw H mk pc regs cells marks) (hv:getV ρ i=some (.ref mach)) (e:dget (machD rg cl rw mk pc) x=some v):Ev C (.sub (.var i) (.str x)) ρ H v:=ev_sub (ev_var hv) ev_str ((sub_ds (fa.at (i:=1) rfl)).trans e)
theorem reg_idx (h:Okm m) (hb:b<16):idxF (m.regs.map V.int) (b:Int)=some (.int (reg m b)):=by
  rw [idx_cast (Nat.lt_trans hb (by decide)),List.getElem?_map,(h.reg hb).1]; rfl
theorem reg_at (hok:Okm m) (fa:MachF H0 mach rg cl rw H mk pc m.regs cells marks) (hb:b<16) (h1:getV ρ i=some (.ref rg)) (h2:Ev C e ρ H (.int b)):Ev C (.sub (.var i) e) ρ H (.int (reg m b)):=ev_sub (ev_var h1) h2 ((sub_list (fa.at (i:=2) rfl)).trans (reg_idx hok hb))
noncomputable abbrev envS (mach rg cl:Nat) (v3 v4 v5 v6:V) (x7 x8 x9 x10 x11 x12:Option V):Env:=[some (.ref mach),some (.ref rg),some (.ref cl),some v3,some v4,some v5,some v6,x7,x8,x9,x10,x11,x12]
theorem set_pc {H:AH} {v:Int} (fa:MachF H0 mach rg cl rw H mk pc regs cells marks):MachF H0 mach rg cl rw (H.set mach (.ds false (machD rg cl rw mk v))) mk v regs cells marks:=Fa.mut .mk' [_] fa
theorem st_pc {H:AH} {v:Int} (fa:MachF H0 mach rg cl rw H mk pc regs cells marks):storeF (.ref mach) (.str "pc") (.int v) H=some (H.set mach (.ds false (machD rg cl rw mk v))):=store_ds (fa.at (i:=1) rfl) (by decide:7<=10000)
theorem step_head (fa:MachM H0 mach rg cl rw H mk m) (gr0:H0 rw=some (.list (R.map rowV))) (hr:R[m.pc]? = some r) (hlen:R.length<=40) {v3 v4 v5 v6:V} (hv:rowL r=[v3,v4,v5,v6])
    (q:∀ H',MachF H0 mach rg cl rw H' mk (m.pc+1) m.regs m.cells m.marks->rest (CN n) (f_law_step.body.drop 3) (fun o uu H'=>Q o.val H') (envS mach rg cl v3 v4 v5 v6 none none none none none none) H'):CN (n+1) "_law_step" [.ref mach] H Q:=by
  have hu:unpackF (rowV r) 4 H=some [v3,v4,v5,v6]:=by show unpackF (.tup (rowL r)) 4 H=_; rw [hv]; rfl
  have hlt:m.pc<100000:=Nat.lt_trans (List.getElem?_eq_some_iff.mp hr).1 (c40 hlen (by decide))
  refine call_of rfl rfl (r_unpack (ev_tup (evs_cons (fld_at fa rfl rfl) (evs_cons (fld_at fa rfl rfl) evs_nil))) rfl ?_)
  refine (r_unpack (Q:=fun o uu H'=>Q o.val H') (ev_sub (fld_at fa rfl rfl) (fld_at fa rfl rfl) (sub_nth (fa.e _ _ gr0) (by rw [List.getElem?_map,hr]; rfl) hlt)) hu ?_:rest (CN n) (f_law_step.body.drop 1) _ [some (.ref mach),some (.ref rg),some (.ref cl),none,none,none,none,none,none,none,none,none,none] H).w
  exact (r_augSub (ev_var rfl) ev_str ((sub_ds (fa.at (i:=1) rfl)).trans rfl) ev_int (st_pc fa) (q _ (set_pc fa)):rest (CN n) (f_law_step.body.drop 2) _ (envS mach rg cl v3 v4 v5 v6 none none none none none none) H).w
theorem step_tail {op:AOp} {a:Nat} {x y:Int} {x5 x6 x7 x8 x9 x12:Option V} (fa:MachF H0 mach rg cl rw H mk pc m.regs cells marks) (ha:a<4) (hl:m.regs.length=16) (hx:0<=x/\x<4294967296)
    (q:∀ H' z,MachF H0 mach rg cl rw H' z pc (m.regs.set a (actF op x y).1) cells (actF op x y).2->Q .none H') :
    rest (CN (n+2)) (f_law_step.body.drop 6) (fun o uu H'=>Q o.val H') [some (.ref mach),some (.ref rg),some (.ref cl),some (.str op.s),some (.int a),x5,x6,x7,x8,x9,some (.int x),some (.int y),x12] H:=by
  refine r_ifF CN_Mono (evt_and (evt_f (nm_t rfl (by rcases op with ⟨⟩ <;> rfl)))) (r_unpackW CN_Mono (w_call (evs_cons (ev_var rfl) (evs_cons (ev_var rfl) (evs_cons (ev_var rfl) evs_nil))) (act_spec hx fun z H1 N=>?_)))
  have fa:=(fa.new (N.made .rfl)).drop2
  have hal:a<(m.regs.map V.int).length:=by rw [List.length_map,hl]; exact Nat.lt_trans ha (by decide)
  have s1:=store_list (v:=.int (actF op x y).1) (fa.at (i:=2) rfl) hal (Nat.lt_trans ha (by decide))
  rw [<- List.map_set] at s1
  have fa:=Fa.mut (.mk' (o:=.list ((m.regs.set a (actF op x y).1).map V.int))) [_,_] fa
  refine ⟨_,rfl,wts_sub (ev_var rfl) (ev_var rfl) s1 (wts_sub (ev_var rfl) ev_str (store_ds (fa.at (i:=1) rfl) (by decide:7<=10000)) ?_)⟩
  have fa:=Fa.mut (.mk' (o:=.ds false (machD rg cl rw z pc))) [_] fa
  exact (r_ifF CN_Mono (evt_cmp (ev_var rfl) ev_none rfl) (r_ret ev_none (q _ z fa)):rest (CN (n+2)) (f_law_step.body.drop 8) (fun o uu H'=>Q o.val H') [some (.ref mach),some (.ref rg),some (.ref cl),some (.str op.s),some (.int a),x5,x6,x7,x8,x9,some (.int x),some (.int y),some .none] _).w
end
end Mine.Wk
end
section
namespace Mine.Wk
open PySem
noncomputable def memN:List String:=["LDR", "LDB", "STR", "STB"]
noncomputable def brN:List String:=["B", "BL", "BR", "BLR", "TRAP"]
structure PlainN (s y:String):Prop where
  m:memN.contains s=false
  b:brN.contains s=false
  g:(s == "GETH")=false
  h:(s == "MOVH")=false
  i:∀ H,subF (.str s) (.int (-1)) H=some (.str y)
section
variable {n:Nat} {H0 H:AH} {Q:V->AH->Prop} {mach rg cl rw mk:Nat} {R:List Row} {m:M} {pc:Int} {cells:List (Int × V)} {marks:Marks} {a b c:Nat}
theorem plain_mid {s y:String} (p:PlainN s y) {d:Bool} (hd:(y == "I")=d) {v4 v5 v6:V}
    (q:rest (CN (n+2)) ((bif d then [.unpack [.var 3,.var 10,.var 11] (.tup [.sliceTo (.var 3) (.neg (.int 1)),.sub (.var 1) (.var 5),.bin .mod (.var 6) (.bin .pow (.int 2) (.int 32))])] else [.unpack [.var 10,.var 11] (.tup [.sub (.var 1) (.var 5),.sub (.var 1) (.var 6)])]) ++ f_law_step.body.drop 6) (fun o uu H'=>Q o.val H') (envS mach rg cl (.str s) v4 v5 v6 none none none none none none) H) :
    rest (CN (n+2)) (f_law_step.body.drop 3) (fun o uu H'=>Q o.val H') (envS mach rg cl (.str s) v4 v5 v6 none none none none none none) H:=by
  refine r_ifF CN_Mono (in_strs (xs:=memN) rfl p.m) (r_ifF CN_Mono (in_strs (xs:=brN) rfl p.b) (r_ifF CN_Mono (nm_t rfl p.g) (r_ifF CN_Mono (nm_t rfl p.h) ?_)))
  have t:EvT (CN (n+2)) (.cmp (.sub (.var 3) (.neg (.int 1))) [.eq] [.str "I"]) (envS mach rg cl (.str s) v4 v5 v6 none none none none none none) H d:=hd ▸ evt_cmp (ev_sub (ev_var rfl) (ev_neg ev_int) (p.i H)) ev_str rfl
  rcases d with uu | uu
  · exact r_ifF CN_Mono t q
  · exact r_ifT CN_Mono t q
theorem reg_plain {op:ROp}:∃ y,PlainN op.s y/\(y == "I")=false:=by
  rcases op with ⟨⟩
  · exact ⟨"V",⟨rfl,rfl,rfl,rfl,fun uu=>rfl⟩,rfl⟩
  · exact ⟨"D",⟨rfl,rfl,rfl,rfl,fun uu=>rfl⟩,rfl⟩
  · exact ⟨"B",⟨rfl,rfl,rfl,rfl,fun uu=>rfl⟩,rfl⟩
  · exact ⟨"R",⟨rfl,rfl,rfl,rfl,fun uu=>rfl⟩,rfl⟩
theorem imm_plain {op:IOp}:PlainN op.s "I" /\ ∀ H,sliceF (.str op.s) (.int (-1)) H=some (.val (.str op.a.s)):=by
  rcases op with ⟨⟩ <;> exact ⟨⟨rfl,rfl,rfl,rfl,fun uu=>rfl⟩,fun uu=>rfl⟩
theorem reg_row {op:ROp} (fa:MachF H0 mach rg cl rw H mk pc m.regs cells marks) (hok:Okm m) (ha:a<4) (hb:b<4) (hc:c<4)
    (q:∀ H' z,MachF H0 mach rg cl rw H' z pc (m.regs.set a (actF op.a (reg m b) (reg m c)).1) cells (actF op.a (reg m b) (reg m c)).2->Q .none H') :
    rest (CN (n+2)) (f_law_step.body.drop 3) (fun o uu H'=>Q o.val H') (envS mach rg cl (.str op.s) (.int a) (.int b) (.int c) none none none none none none) H:=by
  obtain ⟨y,p,hy⟩:=reg_plain (op:=op)
  refine plain_mid p hy ?_
  have l16:∀ {i:Nat},i<4->i<16:=fun h=>Nat.lt_trans h (by decide)
  have hs:op.s=op.a.s:=by rcases op with ⟨⟩ <;> rfl
  refine r_unpack (ev_tup (evs_cons (reg_at hok fa (l16 hb) rfl (ev_var rfl)) (evs_cons (reg_at hok fa (l16 hc) rfl (ev_var rfl)) evs_nil))) rfl ?_
  rw [hs]
  exact (step_tail (x9:=none) (x12:=none) fa ha hok.len (hok.reg (l16 hb)).2 q).w
theorem imm_row {op:IOp} {k:Int} (fa:MachF H0 mach rg cl rw H mk pc m.regs cells marks) (hok:Okm m) (ha:a<4) (hb:b<4)
    (q:∀ H' z,MachF H0 mach rg cl rw H' z pc (m.regs.set a (actF op.a (reg m b) (k.fmod 4294967296)).1) cells (actF op.a (reg m b) (k.fmod 4294967296)).2->Q .none H') :
    rest (CN (n+2)) (f_law_step.body.drop 3) (fun o uu H'=>Q o.val H') (envS mach rg cl (.str op.s) (.int a) (.int b) (.int k) none none none none none none) H:=by
  obtain ⟨p,hS⟩:=imm_plain (op:=op)
  refine plain_mid p rfl ?_
  have hb16:b<16:=Nat.lt_trans hb (by decide)
  refine r_unpack (ev_tup (evs_cons (ev_slice (ev_var rfl) (ev_neg ev_int) (hS H)) (evs_cons (reg_at hok fa hb16 rfl (ev_var rfl)) (evs_cons (ev_bin (ev_var rfl) pow32_at (bF_mod (by decide))) evs_nil)))) rfl ?_
  exact (step_tail (x9:=none) (x12:=none) fa ha hok.len (hok.reg hb16).2 q).w
structure MemC (c:Int):Prop where
  m:(0+c).fmod 4294967296=c
  d:c.fdiv 4*4=c
  s:small (c.fdiv 4)=true
  l:(decide (c ≥ 4096))=false
theorem memC {c:Int} (h:c=64 \/ c=68 \/ c=72):MemC c:=by
  rcases h with rfl | rfl | rfl <;> exact ⟨rfl,rfl,rfl,rfl⟩
theorem reg13 (hok:Okm m):reg m 13=0:=by rw [reg,List.getD_eq_getElem?_getD,hok.r13]; rfl
theorem reg15 (hok:Okm m):reg m 15=5000:=by rw [reg,List.getD_eq_getElem?_getD,hok.r15]; rfl
noncomputable def memEnd:List MS:=[.ite (.cmp (.var 3) [.eq] [.str "LDR"]) [.setSub (.var 1) (.var 4) (.call "_law_got" [.var 2,.var 7])] [.ite (.cmp (.var 3) [.eq] [.str "LDB"]) [.setSub (.var 1) (.var 4) (.meth (.var 2) "get" [.var 7,.int 0])] [.for_ (.one 8) (.bi "range" [.ite (.cmp (.var 3) [.eq] [.str "STR"]) (.int 4) (.int 1)]) f_law_step_l0]],.ret .none]
theorem mem_mid {s y:String} {c:Int} (h1:memN.contains s=true) (h2:∀ H,subF (.str s) (.int 2) H=some (.str y)) (mc:MemC c) (fa:MachF H0 mach rg cl rw H mk pc m.regs cells marks) (hok:Okm m)
    (q:rest (CN (n+2)) (memEnd ++ f_law_step.body.drop 4) (fun o uu H'=>Q o.val H') (envS mach rg cl (.str s) (.int a) (.int 13) (.int c) (some (.int c)) none none none none none) H) :
    rest (CN (n+2)) (f_law_step.body.drop 3) (fun o uu H'=>Q o.val H') (envS mach rg cl (.str s) (.int a) (.int 13) (.int c) none none none none none none) H:=by
  refine r_ifT CN_Mono (in_strs (xs:=memN) rfl h1) (r_assign (ev_bin (ev_bin (reg_at hok fa (b:=13) (by decide) rfl (ev_var rfl)) (ev_var rfl) bF_add) pow32_at (bF_mod (by decide))) ?_)
  rw [reg13 hok,mc.m]
  have t:EvT (CN (n+2)) (.cmp (.sub (.var 3) (.int 2)) [.eq] [.str "B"]) (envS mach rg cl (.str s) (.int a) (.int 13) (.int c) (some (.int c)) none none none none none) H (y == "B"):=evt_cmp (ev_sub (ev_var rfl) ev_int (h2 H)) ev_str rfl
  have e:Ev (CN (n+2)) (.ite (.cmp (.sub (.var 3) (.int 2)) [.eq] [.str "B"]) (.var 7) (.bin .mul (.bin .fdiv (.var 7) (.int 4)) (.int 4))) (envS mach rg cl (.str s) (.int a) (.int 13) (.int c) (some (.int c)) none none none none none) H (.int c):=by
    rcases hy:y == "B" with uu | uu <;> rw [hy] at t
    · have e:=ev_iteF (a:=.var 7) t (ev_bin (fdiv_at (ev_var (i:=7) rfl) (k:=4) (by decide) (by decide)) ev_int (bF_mul (j:=4) mc.s (by decide)))
      rw [mc.d] at e; exact e
    · exact ev_iteT t (ev_var rfl)
  exact r_assign e (r_ifF CN_Mono (mc.l ▸ evt_cmp (ev_var rfl) (fld_at fa rfl rfl) rfl) q)
theorem dset_len {x:Int} {w:V}:∀ l:List (Int × V),(dset l x w).length<=l.length+1
  | []=>Nat.le_refl 1
  | (k,w')::r=>by
    unfold dset
    by_cases h:k=x
    · rw [if_pos h]; exact Nat.le_succ _
    · rw [if_neg h]; exact Nat.succ_le_succ (dset_len r)
theorem put_len {C:List (Int × V)} {a v:Int}:∀ k,(putF C a v k).length<=C.length+k
  | 0=>Nat.le_refl _
  | k+1=>Nat.le_trans (dset_len _) (Nat.succ_le_succ (put_len k))
inductive PtI (H0:AH) (mach rg cl rw mk:Nat) (pc:Int) (m:M) (marks:Marks) (a:Nat) (s:String) (c:Int) (k:Nat) (ρ:Env) (H:AH):Prop
  | mk (x8:Option V) (hρ:ρ = envS mach rg cl (.str s) (.int a) (.int 13) (.int c) (some (.int c)) x8 none none none none) (fa:MachF H0 mach rg cl rw H mk pc m.regs (putF m.cells c (reg m a) k) marks)
theorem put_loop {s:String} {c:Int} {k0:Nat} {it:ME} {ss:List MS} {K:PO} (hk0:k0<=4) (hok:Okm m) (ha:a<4) (hcl:m.cells.length<=1000) (fa:MachF H0 mach rg cl rw H mk pc m.regs m.cells marks)
    (hit:Ev (CN n) it (envS mach rg cl (.str s) (.int a) (.int 13) (.int c) (some (.int c)) none none none none none) H (.rng 0 k0))
    (q:∀ x8 H',MachF H0 mach rg cl rw H' mk pc m.regs (putF m.cells c (reg m a) k0) marks->rest (CN n) ss K (envS mach rg cl (.str s) (.int a) (.int 13) (.int c) (some (.int c)) x8 none none none none) H') :
    rest (CN n) (.for_ (.one 8) it f_law_step_l0::ss) K (envS mach rg cl (.str s) (.int a) (.int 13) (.int c) (some (.int c)) none none none none none) H:=by
  refine r_for CN_Mono hit keys_rng iter_rng (PtI H0 mach rg cl rw mk pc m marks a s c) (fun uu uu uu uu=>still_rng) ?_ ⟨_,rfl,fa⟩ ?_
  · rintro k x ρ H' hx ⟨x8,rfl,fa⟩
    obtain ⟨rfl,hk⟩:=rngL_get hx
    have hk:k<k0:=hk
    rw [Int.zero_add]
    have hk3:k<=3:=Nat.le_of_lt_succ (Nat.lt_of_lt_of_le hk hk0)
    have p0:(256:Int) ^ k ≠ 0:=Int.ne_of_gt (Int.pow_pos (by decide))
    refine ⟨_,rfl,r_storeDi (ev_bin (ev_bin (reg_at hok fa (Nat.lt_trans ha (by decide)) rfl (ev_var rfl)) (ev_bin ev_int (ev_var rfl) (bF_pow ⟨Int.natCast_nonneg k,Int.ofNat_le.mpr (Nat.le_trans hk3 (by decide))⟩ (by decide))) (bF_fdiv p0 (pow_nat (b:=256) hk3 (by decide) (by decide)))) ev_int (bF_mod (by decide)))
      (ev_var rfl) (ev_bin (ev_var rfl) (ev_var rfl) bF_add) (fa.at (i:=3) rfl) (Nat.le_trans (put_len k) (Nat.le_trans (Nat.add_le_add hcl hk3) (by decide))) fun H' m'=>rest_nil ⟨_,rfl,Fa.mut m' [_,_,_] fa⟩⟩
  · rintro ρ H' ⟨x8,rfl,fa⟩
    rw [rngL_len] at fa
    exact q x8 H' fa
theorem mem_row {op:MOp} {c:Int} (fa:MachF H0 mach rg cl rw H mk pc m.regs m.cells marks) (hok:Okm m) (ha:a<4) (hcl:m.cells.length<=1000) (hc:c=64 \/ c=68 \/ c=72)
    (q1:op = .LDR->∀ H',MachF H0 mach rg cl rw H' mk pc (m.regs.set a (gotF m.cells c)) m.cells marks->Q .none H') (q2:op = .STR->∀ H',MachF H0 mach rg cl rw H' mk pc m.regs (putF m.cells c (reg m a) 4) marks->Q .none H')
    (q3:op = .STB->∀ H',MachF H0 mach rg cl rw H' mk pc m.regs (putF m.cells c (reg m a) 1) marks->Q .none H') :
    rest (CN (n+2)) (f_law_step.body.drop 3) (fun o uu H'=>Q o.val H') (envS mach rg cl (.str op.s) (.int a) (.int 13) (.int c) none none none none none none) H:=by
  have mc:=memC hc
  rcases op with ⟨⟩
  · refine mem_mid (y := "R") rfl (fun uu=>rfl) mc fa hok (r_ifT CN_Mono (nm_t rfl rfl) (r_setSubW CN_Mono (w_call (evs_cons (ev_var rfl) (evs_cons (ev_var rfl) evs_nil)) (got_spec (fa.at (i:=3) rfl) hok.cel fun H2 e2=>?_))))
    have fa:=fa.ext e2
    have s1:=store_list (v:=.int (gotF m.cells c)) (fa.at (i:=2) rfl) (k:=a) (by rw [List.length_map,hok.len]; exact Nat.lt_trans ha (by decide)) (Nat.lt_trans ha (by decide))
    rw [<- List.map_set] at s1
    exact ⟨_,_,_,ev_var rfl,ev_var rfl,s1,r_ret ev_none (q1 rfl _ (Fa.mut .mk' [_,_] fa))⟩
  · exact mem_mid (y := "R") rfl (fun uu=>rfl) mc fa hok (r_ifF CN_Mono (nm_t rfl rfl) (r_ifF CN_Mono (nm_t rfl rfl) (put_loop (k0:=4) (Nat.le_refl 4) hok ha hcl fa (ev_bi (evs_cons (ev_iteT (nm_t rfl rfl) ev_int) evs_nil) (range1 (n:=4) (by decide))) fun x8 H' fa=>r_ret ev_none (q2 rfl H' fa))))
  · exact mem_mid (y := "B") rfl (fun uu=>rfl) mc fa hok (r_ifF CN_Mono (nm_t rfl rfl) (r_ifF CN_Mono (nm_t rfl rfl) (put_loop (k0:=1) (by decide) hok ha hcl fa (ev_bi (evs_cons (ev_iteF (nm_t rfl rfl) ev_int) evs_nil) (range1 (n:=1) (by decide))) fun x8 H' fa=>r_ret ev_none (q3 rfl H' fa))))
end
end Mine.Wk
end
section
namespace Mine.Wk
open PySem
section
variable {n:Nat} {H0 H:AH} {Q:V->AH->Prop} {mach rg cl rw mk:Nat} {R:List Row} {m:M} {r:Row} {pc off en ep:Int} {regs:List Int} {cells:List (Int × V)} {marks:Marks} {c:Cnd}
noncomputable def brEnd:List MS:=[.ite (.cmp (.var 3) [.eq] [.str "TRAP"]) [.ret (.tup [.str "trap",.var 5,.var 6])] [],.assign 9 (.ite (.cmp (.var 3) [.isin] [.tup [.str "B",.str "BL"]]) (.bin .add (.sub (.var 0) (.str "pc")) (.var 5)) (.sub (.var 1) (.var 5))),
  .ite (.cmp (.var 3) [.isin] [.tup [.str "BL",.str "BLR"]]) [.setSub (.var 1) (.int 15) (.sub (.var 0) (.str "pc"))] [],.setSub (.var 0) (.str "pc") (.var 9),.ret .none]
theorem br_mid {s:String} {v5 v6:V} (hm:memN.contains s=false) (hb:brN.contains s=true) (fa:MachF H0 mach rg cl rw H mk pc regs cells marks) (q1:holdsF c marks=false->∀ H',MachF H0 mach rg cl rw H' mk pc regs cells marks->Q .none H')
    (q2:holdsF c marks=true->∀ H',MachF H0 mach rg cl rw H' mk pc regs cells marks->rest (CN (n+2)) (brEnd ++ f_law_step.body.drop 5) (fun o uu H'=>Q o.val H') (envS mach rg cl (.str s) (.str c.s) v5 v6 none none none none none none) H') :
    rest (CN (n+2)) (f_law_step.body.drop 3) (fun o uu H'=>Q o.val H') (envS mach rg cl (.str s) (.str c.s) v5 v6 none none none none none none) H:=by
  refine r_ifF CN_Mono (in_strs (xs:=memN) rfl hm) (r_ifT CN_Mono (in_strs (xs:=brN) rfl hb) (r_ifW CN_Mono ?_))
  have hE:Evs (CN (n+2)) [.var 4,.sub (.var 0) (.str "marks")] (envS mach rg cl (.str s) (.str c.s) v5 v6 none none none none none none) H [.str c.s,.ref mk]:=evs_cons (ev_var rfl) (evs_cons (fld_at fa rfl rfl) evs_nil)
  refine hE (fun vs H₁=>CN (n+2) "_law_holds" vs H₁ fun v H₂=>match truthF v H₂ with | some b=>rest (CN (n+2)) ((bif !b then [.ret .none] else []) ++ (brEnd ++ f_law_step.body.drop 5)) (fun o uu H'=>Q o.val H') (envS mach rg cl (.str s) (.str c.s) v5 v6 none none none none none none) H₂ | none=>False) (holds_spec (fa.at (i:=0) rfl) fun H' e=>?_)
  show rest (CN (n+2)) ((bif !holdsF c marks then [.ret .none] else []) ++ (brEnd ++ f_law_step.body.drop 5)) _ _ H'
  rcases h:holdsF c marks with uu | uu
  · exact r_ret ev_none (q1 h H' (fa.ext e))
  · exact q2 h H' (fa.ext e)
theorem step_spec (fa:MachM H0 mach rg cl rw H mk m) (gr0:H0 rw=some (.list (R.map rowV))) (hr:R[m.pc]? = some r) (hlen:R.length<=40) (hrok:rOk r) (hok:Okm m) (hcl:m.cells.length<=1000) (htg:∀ c off,r = .br c off->0<=(m.pc:Int)+1+off)
    (q:∀ H' mk',MachM H0 mach rg cl rw H' mk' (stepF R m).1->Q (trapV (stepF R m).2) H'):CN (n+3) "_law_step" [.ref mach] H Q:=by
  rcases r with ⟨op,a,b,c⟩ | ⟨op,a,b,c⟩ | ⟨op,a,c⟩ | ⟨c,off⟩ | ⟨c,en,ep⟩ | ⟨c⟩
  · rw [step_reg hr] at q
    exact step_head fa gr0 hr hlen rfl fun H1 fa=>reg_row fa hok hrok.1 hrok.2.1 hrok.2.2 q
  · rw [step_imm hr] at q
    exact step_head fa gr0 hr hlen rfl fun H1 fa=>imm_row fa hok hrok.1 hrok.2 q
  · refine step_head fa gr0 hr hlen rfl fun H1 fa=>mem_row fa hok hrok.1 hcl hrok.2 (fun e H' fa=>?_) (fun e H' fa=>?_) fun e H' fa=>?_
    · subst e; rw [step_ldr hr] at q; exact q H' mk fa
    · subst e; rw [step_str hr] at q; exact q H' mk fa
    · subst e; rw [step_stb hr] at q; exact q H' mk fa
  · rw [step_br hr] at q
    refine step_head fa gr0 hr hlen rfl fun H1 fa=>br_mid rfl rfl fa (fun h H' fa=>q H' mk (by rw [h]; exact fa)) fun h H' fa=>?_
    refine r_ifF CN_Mono (nm_t rfl rfl) (r_assign (ev_iteT (in_strs (xs:=["B", "BL"]) rfl rfl) (ev_bin (fld_at fa rfl rfl) (ev_var rfl) bF_add)) (r_ifF CN_Mono (in_strs (xs:=["BL", "BLR"]) rfl rfl) (r_setSub (ev_var rfl) (ev_var rfl) ev_str (st_pc fa) (r_ret ev_none (q _ mk ?_)))))
    rw [h]
    show MachF H0 mach rg cl rw _ mk (((m.pc:Int)+1+off).toNat:Int) m.regs m.cells m.marks
    rw [Int.toNat_of_nonneg (htg c off rfl)]
    exact set_pc fa
  · have est:stepF R m=({ m with pc:=m.pc+1 },if holdsF c m.marks=true then some (en,ep) else Option.none):=by simp only [stepF,hr]
    rw [est] at q
    refine step_head fa gr0 hr hlen rfl fun H1 fa=>br_mid rfl rfl fa (fun h H' fa=>by have:=q H' mk fa; rw [h] at this; exact this) fun h H' fa=>?_
    have q:=q H' mk fa
    rw [h] at q
    exact r_ifT CN_Mono (nm_t rfl rfl) (r_ret (ev_tup (evs_cons ev_str (evs_cons (ev_var rfl) (evs_cons (ev_var rfl) evs_nil)))) q)
  · have est:stepF R m=({ m with pc:=if holdsF c m.marks=true then 5000 else m.pc+1 },Option.none):=by simp only [stepF,hr]
    rw [est] at q
    refine step_head fa gr0 hr hlen rfl fun H1 fa=>br_mid rfl rfl fa (fun h H' fa=>q H' mk (by rw [h]; exact fa)) fun h H' fa=>?_
    refine r_ifF CN_Mono (nm_t rfl rfl) (r_assign (ev_iteF (in_strs (xs:=["B", "BL"]) rfl rfl) (reg_at hok fa (b:=15) (by decide) rfl (ev_var rfl))) (r_ifF CN_Mono (in_strs (xs:=["BL", "BLR"]) rfl rfl) ?_))
    rw [reg15 hok]
    exact r_setSub (ev_var rfl) (ev_var rfl) ev_str (st_pc fa) (r_ret ev_none (q _ mk (by rw [h]; exact set_pc fa)))
end
end Mine.Wk
end
section
namespace Mine.Wk
open PySem
noncomputable def c0F (acc:List (Int × V)) (i:Nat):List (Int × V):=dset acc (64+(i:Int)) (.int (7*(i:Int)+1))
noncomputable def C0:List (Int × V):=(List.range 12).foldl c0F []
theorem c0_bytes:∀ (l:List Nat) (acc:List (Int × V)),(∀ i ∈ l,i<12)->Bytes acc->Bytes (l.foldl c0F acc)
  | [],acc,_,h=>h
  | i::l,acc,hl,h=>c0_bytes l _ (fun j hj=>hl j (.tail _ hj)) fun k v hk=>by
    have hi:=hl i (.head _)
    rw [c0F,dget_dsetI] at hk
    by_cases c:64+(i:Int)=k
    · rw [if_pos c] at hk
      exact ⟨_,(Option.some.inj hk).symm,by omega,by omega⟩
    · rw [if_neg c] at hk; exact h k v hk
theorem C0_cel:Bytes C0:=c0_bytes _ _ (fun i hi=>List.mem_range.mp hi) fun k v h=>nomatch h
theorem C0_len:C0.length<=12:=by decide
noncomputable def Outc.kept:Outc->List Int
  | .trap _ _ k=>k
  | .ret k _ _ _ _=>k
noncomputable def Outc.tup (kp:Nat):Outc->V
  | .trap n p _=>.tup [.tup [.str "trap",.int n,.int p],.ref kp]
  | .ret _ r0 r11 r13 r14=>.tup [.str "return",.ref kp,.int r0,.int r11,.int r13,.int r14]
inductive OutV (H:AH) (v:V):Option Outc->Prop
  | none (e:v = .none):OutV H v none
  | some (out:Outc) (kp:Nat) (e:v=out.tup kp) (g:H kp=some (.list (out.kept.map V.int))):OutV H v (some out)
noncomputable def M0 (seeds:List Int) (start:Nat):M:=⟨seeds,C0,start,(false,false,false,false)⟩
section
variable {n:Nat} {C:Cl} {H:AH} {Q:V->AH->Prop} {ρ:Env} {e:ME} {es:List ME} {ob:AO} {v:V}
theorem wes_new {K:List V->AH->Prop} (h:EvN C e ρ H ob) (k:∀ a H',New H a ob H'->wpEs C es ρ H' fun vs H₂=>K (.ref a::vs) H₂):wpEs C (e::es) ρ H K:=h _ fun a ha=>k a _ (.mk' ha)
theorem wes_ev {K:List V->AH->Prop} (h:Ev C e ρ H v) (k:wpEs C es ρ H fun vs H₂=>K (v::vs) H₂):wpEs C (e::es) ρ H K:=h _ k
theorem wes_w {K:List V->AH->Prop} (h:wpE C e ρ H fun v H₁=>wpEs C es ρ H₁ fun vs H₂=>K (v::vs) H₂):wpEs C (e::es) ρ H K:=h
theorem w_dict (hC:Mono C) {k:String} {ks:List String} (h:wpEs C es ρ H fun vs H₁=>∀ a H',New H₁ a (.ds false ((k::ks).zip vs)) H'->Q (.ref a) H'):wpE C (.dict (k::ks) es) ρ H Q:=wpEs_mono hC es _ _ _ _ (fun vs H₁ z a ha=>z a _ (.mk' ha)) h
theorem c0_go {K:List (Int × V)->AH->Prop}:∀ (xs:List Nat) (acc:List (Int × V)) (x1:Option V),(∀ i ∈ xs,i<12)->acc.length+xs.length<=12->K (xs.foldl c0F acc) H ->
    dcompT (.one 1) (fun ρ' H' K=>wpE C (.bin .add (.int 64) (.var 1)) ρ' H' K) (fun ρ' H' K=>wpE C (.bin .add (.bin .mul (.int 7) (.var 1)) (.int 1)) ρ' H' K) (.rng 0 12) (rngL 0 12) (xs.map fun i:Nat=>.int (i:Int)) [none,x1] H acc K
  | [],acc,x1,_,_,h=>⟨rfl,h⟩
  | i::xs,acc,x1,hi,hl,h=>⟨rfl,ev_bin (C:=C) ev_int (ev_var rfl) bF_add _ (ev_bin (C:=C) (ev_bin ev_int (ev_var rfl) (bF_mul (by decide) (small_nat (Nat.lt_trans (hi i (.head _)) (by decide))))) ev_int bF_add _
    ⟨Nat.lt_of_le_of_lt (Nat.le_trans (Nat.le_add_right _ _) hl) (by decide),c0_go xs _ _ (fun j hj=>hi j (.tail _ hj)) (Nat.le_trans (Nat.add_le_add_right (dset_len acc) _) (by rw [Nat.add_right_comm]; exact hl)) h⟩)⟩
theorem c0_ev:EvN (CN n) (.dcomp [none,none] (.one 1) (.bi "range" [.int 12]) (.bin .add (.int 64) (.var 1)) (.bin .add (.bin .mul (.int 7) (.var 1)) (.int 1))) ρ H (.di false C0):=fun Q q=>by
  have h:=c0_go (C:=CN n) (H:=H) (K:=fun acc H₂=>∀ a,H₂ a=none->Q (.ref a) (H₂.set a (.di false acc))) (List.range 12) [] none (fun i hi=>List.mem_range.mp hi) (Nat.le_refl 12) q
  rw [<- show rngL 0 12=(List.range 12).map fun i:Nat=>V.int (i:Int) from rfl] at h
  exact ev_bi (C:=CN n) (ρ:=ρ) (evs_cons ev_int evs_nil) (range1 (n:=12) (by decide)) _ h
theorem fill_w {K:V->AH->Prop} {x:V} {k:Nat} (hk:k<=1000) (h1:Ev C e ρ H x) (q:∀ a H',Made H a (.list (List.replicate k x)) H'->K (.ref a) H'):wpE C (.bin .mul (.list [e]) (.int (k:Int))) ρ H K :=
  h1 _ fun t ht=>iR (r:=.new (.list (List.replicate k x))) (mulL set_same hk) fun a ha=>q a _ ⟨(ext_set .rfl ht).none ha,(ext_set .rfl ht).trans (ext_set .rfl ha),set_same⟩
end
section
variable {n:Nat} {H0 H:AH} {Q:V->AH->Prop} {mach rg cl rw mk:Nat} {m:M}
inductive KpI (H:AH) (mach:Nat) (C:List (Int × V)) (k:Nat) (ρ:Env) (H':AH) (acc:List V):Prop
  | mk (x1:Option V) (hρ:ρ = [none,x1,some (.ref mach)]) (e:H'=H) (ha:acc=((List.range k).map fun j:Nat=>cellI C (60+j)).map V.int)
theorem kept_w {ρ:Env} (hρ:getV ρ 3=some (.ref mach)) (fa:MachM H0 mach rg cl rw H mk m) (hc:Bytes m.cells) (q:∀ kp H',New H kp (.list ((keptF m.cells).map V.int)) H'->Q (.ref kp) H') :
    wpE (CN n) (.comp [none,none,some 3] (.one 1) (.bi "range" [.int 60,.int 80]) [] (.meth (.sub (.var 2) (.str "cells")) "get" [.var 1,.int 0])) ρ H Q:=by
  refine w_comp (all:=rngL 60 80) CN_Mono (ev_bi (evs_cons ev_int (evs_cons ev_int evs_nil)) rfl) iter_rng (KpI H mach m.cells) (fun uu uu uu uu uu=>still_rng) ?_ ⟨none,?_,rfl,rfl⟩ ?_
  · rintro i x ρ H' acc hx ⟨x1,rfl,rfl,rfl⟩
    obtain ⟨rfl,hi⟩:=rngL_get hx
    have hi:i<20:=hi
    refine .take _ rfl (fun uu q=>q) (by rw [List.length_map,List.length_map,List.length_range]; exact Nat.lt_trans hi (by decide)) (ev_meth (fld_at (i:=2) (x := "cells") fa rfl rfl) (get_k (fa.at (i:=3) rfl)) (evs_cons (ev_var rfl) (evs_cons ev_int evs_nil)) ((get_m (fa.at (i:=3) rfl)).trans (congrArg (fun v=>some (v,H')) (byte_at hc (60+(i:Int))).e)) _ ⟨_,rfl,rfl,?_⟩)
    rw [List.range_succ,List.map_append,List.map_append]; rfl
  · show [none,none,getV ρ 3]=_
    rw [hρ]
  · rintro ρ H' acc ⟨x1,rfl,rfl,rfl⟩ z H'' N
    exact q z H'' N
inductive RnI (H:AH) (rw st sd mach rg cl:Nat) (o:Ob) (out:Option Outc) (k:Nat) (ρ:Env) (H':AH):Prop
  | mk (x4 x5 x6 x7:Option V) (m:M) (mk:Nat) (hρ:ρ = [some (.ref rw),some (.int st),some (.ref sd),some (.ref mach),x4,x5,x6,x7]) (fa:MachM H mach rg cl rw H' mk m) (ok:Okm m) (pc:m.pc<o.rows.length) (l:m.cells.length<=12+4*k)
    (run:runF o.rows (80 - k) m=out)
theorem cells_len {R:List Row} {r:Row} (hr:R[m.pc]? = some r):(stepF R m).1.cells.length<=m.cells.length+4:=by
  have z:m.cells.length<=m.cells.length+4:=Nat.le_add_right _ _
  rcases r with ⟨op,a,b,c⟩ | ⟨op,a,b,c⟩ | ⟨⟨⟩,a,c⟩ | ⟨c,off⟩ | ⟨c,en,ep⟩ | ⟨c⟩ <;> unfold stepF <;> rw [hr]
  · exact z
  · exact z
  · exact z
  · exact put_len 4
  · exact Nat.le_trans (put_len 1) (Nat.add_le_add_left (by decide) _)
  · exact z
  · exact z
  · exact z
theorem ran_turn {k st sd:Nat} {o:Ob} {out:Option Outc} {ρ:Env} (w:WF o) (hr:H0 rw=some (.list (o.rows.map rowV))) (hk:k<80) (h:RnI H0 rw st sd mach rg cl o out k ρ H) (q:∀ v H',Ext H0 H'->OutV H' v out->Q v H') :
    Turn (CN (n+3)) (.one 4) (.int k) f_law_ran_l0 (Body (RnI H0 rw st sd mach rg cl o out (k+1)) fun o uu H'=>Q o.val H') ρ H:=by
  obtain ⟨x4,x5,x6,x7,m,mk,rfl,fa,ok,pc,l,run⟩:=h
  have hrow:o.rows[m.pc]? = some o.rows[m.pc]:=List.getElem?_eq_getElem pc
  have l400:m.cells.length<=1000:=Nat.le_trans l (Nat.le_trans (Nat.add_le_add_left (Nat.mul_le_mul_left 4 (Nat.le_of_lt hk)) 12) (by decide))
  refine ⟨_,rfl,r_assignW CN_Mono (w_call (evs_cons (ev_var rfl) evs_nil) (step_spec fa hr hrow w.len (w.ok _ _ hrow) ok l400 (fun c off hb=>(w.tgt m.pc c off (hrow.trans (congrArg some hb))).1) fun H6 mk6 fa6=>?_))⟩
  have ok6:Okm (stepF o.rows m).1:=ok.step fun r' hr'=>w.ok _ _ hr'
  refine r_assign (fld_at fa6 rfl rfl) (r_assignW CN_Mono (kept_w rfl fa6 ok6.cel fun kp H7 N7=>?_))
  have fa7:=fa6.ext N7.e
  have hn:80 - k=(80 - (k+1))+1:=(Nat.succ_sub_one _).symm.trans (by rw [Nat.sub_add_eq,Nat.sub_add_cancel (Nat.sub_pos_of_lt hk)]; rfl)
  rw [hn,runF] at run
  rcases h2:(stepF o.rows m).2 with uu | ⟨pa,pb⟩ <;> rw [h2] at run
  · refine r_ifF CN_Mono (evt_cmp (ev_var rfl) ev_none rfl) ?_
    by_cases h5:5000<=(stepF o.rows m).1.pc
    · replace run:some _=out:=(if_pos h5).symm.trans run
      refine r_ifT CN_Mono (evt_cmp (fld_at fa7 rfl rfl) ev_int (congrArg some (decide_eq_true (Int.ofNat_le.mpr h5)))) (r_ret (ev_tup (evs_cons ev_str (evs_cons (ev_var rfl) (evs_cons (reg_at ok6 fa7 (b:=0) (by decide) rfl ev_int) (evs_cons (reg_at ok6 fa7 (b:=11) (by decide) rfl ev_int) (evs_cons (reg_at ok6 fa7 (b:=13) (by decide) rfl ev_int) (evs_cons (reg_at ok6 fa7 (b:=14) (by decide) rfl ev_int) evs_nil))))))) ?_)
      exact q _ H7 fa7.e (run ▸ .some _ kp rfl N7.g)
    · replace run:runF _ _ _=out:=(if_neg h5).symm.trans run
      have hlt:=step_lt w hrow h2 (Nat.lt_of_not_le h5)
      refine r_ifF CN_Mono (evt_cmp (fld_at fa7 rfl rfl) ev_int (congrArg some (decide_eq_false fun z=>h5 (Int.ofNat_le.mp z)))) (r_ifF CN_Mono (evt_notF (evt_cmp2 (c1:=true) (c2:=true) ev_int (fld_at fa7 rfl rfl) (len_at rfl (fa7.e _ _ hr) w.len) (congrArg some (decide_eq_true (p:=(0:Int)<=((stepF o.rows m).1.pc:Nat)) (Int.natCast_nonneg _))) (congrArg some (decide_eq_true (p:=(((stepF o.rows m).1.pc:Nat):Int)<(o.rows.length:Nat)) (Int.ofNat_lt.mpr hlt))))) (rest_nil ⟨_,_,_,_,_,mk6,rfl,fa7,ok6,hlt,?_,run⟩))
      exact Nat.le_trans (cells_len hrow) (Nat.add_le_add_right l 4)
  · refine r_ifT CN_Mono (evt_cmp (ev_var rfl) ev_none rfl) (r_ret (ev_tup (evs_cons (ev_var rfl) (evs_cons (ev_var rfl) evs_nil))) ?_)
    exact q _ H7 fa7.e (run ▸ .some _ kp rfl N7.g)
theorem ran_spec {sd start:Nat} {o:Ob} {seeds:List Int} (w:WF o) (hr:H rw=some (.list (o.rows.map rowV))) (hs:H sd=some (.list (seeds.map V.int))) (hst:start<o.rows.length)
    (hok:Okm (M0 seeds start)) (q:∀ v H',Ext H H'->OutV H' v (runF o.rows 80 (M0 seeds start))->Q v H'):CN (n+4) "_law_ran" [.ref rw,.int start,.ref sd] H Q:=by
  have hsl:seeds.length=16:=hok.len
  refine call_of rfl rfl (r_assignW CN_Mono (w_dict CN_Mono (wes_new (evn_bi (evs_cons (ev_var rfl) evs_nil) (list_list hs (by rw [List.length_map,hsl]; decide))) fun rg H1 N1=>wes_new c0_ev fun cl H2 N2=>wes_ev (ev_var rfl) (wes_ev (ev_var rfl) (wes_ev ev_int (wes_ev ev_int (wes_w (fill_w (k:=4) (by decide) ev_bool fun mk H3 N3 mach H4 N4=>?_))))))))
  have fa:Fa H H1 [(rg,.list (seeds.map V.int))]:=Fa.new (L:=[]) ⟨.rfl,List.forall_mem_nil _,.nil,List.forall_mem_nil _⟩ (N1.made .rfl)
  have fa:=((fa.new (N2.made .rfl)).new N3).new (N4.made .rfl)
  have fa:MachM H mach rg cl rw H4 mk (M0 seeds start):=fa.perm (.trans (.swap ..) (.cons _ (.cons _ (.swap ..))))
  refine r_for CN_Mono (ev_bi (evs_cons ev_int evs_nil) (range1 (n:=80) (by decide))) keys_rng iter_rng (RnI H rw start sd mach rg cl o (runF o.rows 80 (M0 seeds start))) (fun uu uu uu uu=>still_rng) (fun k x ρ H' hx h=>?_) ⟨_,_,_,_,_,mk,rfl,fa,hok,hst,C0_len,rfl⟩ fun ρ H' h=>?_
  · obtain ⟨rfl,hk⟩:=rngL_get hx
    rw [Int.zero_add]
    exact ran_turn w hr hk h q
  · obtain ⟨x4,x5,x6,x7,m,mk,rfl,fa,ok,pc,l,run⟩:=h
    have e:(rngL 0 (80:Nat)).length=80:=rngL_len
    rw [e] at run
    exact r_ret ev_none (q .none H' fa.e (run ▸ .none rfl))
end
end Mine.Wk
end
section
namespace Mine.Wk
open PySem
section
variable {r z a:Nat} {H H':AH} {L L':List Int} {A:Adr} {o:Ob}
theorem Pop.keepL (p:Pop r H L H' L') (hr:H r=some (intL L)) {xs:List V} (h:H z=some (.list xs)) (hx:∀ x ∈ xs,∀ i,x ≠ .int i):H' z=some (.list xs):=by
  by_cases e:z=r
  · subst e
    obtain rfl:=AO.listI (Option.some.inj (h.symm.trans hr))
    rcases L with uu | ⟨i,L⟩
    · rw [p.g,p.e (Eq.refl _)]; exact Eq.refl _
    · exact absurd (Eq.refl _) (hx _ (.head _) i)
  · exact p.k z _ e h
theorem Pop.keepO (p:Pop r H L H' L') (hr:H r=some (intL L)) {v:AO} (h:H z=some v) (hv:∀ xs,v ≠ .list xs):H' z=some v:=p.k z v (fun e=>hv _ (Option.some.inj (h.symm.trans (e ▸ hr)))) h
theorem noInt {α:Type} {f:α->V} {l:List α} (hf:∀ y i,f y ≠ .int i):∀ x ∈ l.map f,∀ i,x ≠ .int i:=fun x hx i=>by
  obtain ⟨y,uu,rfl⟩:=List.mem_map.mp hx
  exact hf y i
theorem tup_int {l:List V} {i:Int}:V.tup l ≠ .int i:=nofun
theorem isL_ne {v:AO} {f:AO->Bool} (h1:f v=false) (h2:∀ xs,f (.list xs)=true) (xs:List V):v ≠ .list xs:=fun e=>nFT (h1.symm.trans (e ▸ h2 xs))
noncomputable def isL:AO->Bool
  | .list _=>true
  | _=>false
theorem ObjAt.pop (h:ObjAt H a A o) (p:Pop r H L H' L') (hr:H r=some (intL L)):ObjAt H' a A o:=by
  have nil:∀ {z},H z=some (.list [])->H' z=some (.list []):=fun h=>p.keepL hr h (List.forall_mem_nil _)
  have ot:∀ {z v},H z=some v->isL v=false->H' z=some v:=fun h e=>p.keepO hr h (isL_ne (f:=isL) e fun uu=>rfl)
  exact ⟨ot h.hi rfl,ot h.hn rfl,nil h.him,p.keepL hr h.hr (noInt fun uu uu=>tup_int),nil h.hw,nil h.hd,p.keepL hr h.hf (noInt fun uu uu=>tup_int),p.keepL hr h.he (all_app (noInt fun uu uu=>tup_int) fun uu=>tup_int),nil h.hp,ot h.hm rfl,ot h.hc rfl⟩
end
section
variable {e:V->V->Option Bool} {H:AH} {n a b:Nat} {x y v v':V} {xs ys l:List V}
theorem eqFs_cons (h:e x y=some true) (k:eqFs e xs ys=some true):eqFs e (x::xs) (y::ys)=some true:=by rw [eqFs,h,k]; rfl
theorem eqFs_refl:∀ {l:List V},(∀ x ∈ l,e x x=some true)->eqFs e l l=some true
  | [],_=>rfl
  | x::l,h=>eqFs_cons (h x (.head _)) (eqFs_refl fun y hy=>h y (.tail _ hy))
theorem eq_plain_refl (h:Plain v):eqF (n+1) H v v=some true:=by
  rcases h with ⟨i,rfl⟩ | ⟨s,rfl⟩
  · exact congrArg some (beq_self_eq_true i)
  · exact congrArg some (beq_self_eq_true s)
theorem eq_tup (hl:xs.length=ys.length) (h:eqFs (eqF n H) xs ys=some true):eqF (n+1) H (.tup xs) (.tup ys)=some true:=(if_pos hl).trans h
theorem eq_tup_refl (h:∀ x ∈ l,Plain x):eqF (n+2) H (.tup l) (.tup l)=some true:=eq_tup rfl (eqFs_refl fun x hx=>eq_plain_refl (h x hx))
theorem eq_list_refl (ha:H a=some (.list l)) (hb:H b=some (.list l)) (h:∀ x ∈ l,eqF n H x x=some true):eqF (n+1) H (.ref a) (.ref b)=some true:=by
  show (listAt H a).bind _=_
  exact bind_of (listAt_of ha) (bind_of (listAt_of hb) ((if_pos rfl).trans (eqFs_refl h)))
theorem dsAt_list (h:H a=some (.list l)):dsAt H a=none:=by unfold dsAt; rw [h]
theorem eqE_list (ha:H a=some (.list l)) (hb:H b=some (.list l)) (h:∀ x ∈ l,eqF n H x x=some true):eqE (n+1) H (.ref a) (.ref b)=some true:=by
  show (match (dsAt H a).bind (fun ks=>(dsAt H b).map fun ls=>(ks,ls)) with | some q=>eqD (n+1) H q.1 q.2 | none=>eqF (n+1) H (.ref a) (.ref b))=_
  rw [dsAt_list ha]
  exact eq_list_refl ha hb h
theorem pI {i:Int}:Plain (.int i):=.inl ⟨i,rfl⟩
theorem pS {s:String}:Plain (.str s):=.inr ⟨s,rfl⟩
theorem all2 {P:V->Prop} (h1:P x) (h2:P y):∀ z ∈ [x,y],P z:=List.forall_mem_cons.mpr ⟨h1,List.forall_mem_cons.mpr ⟨h2,List.forall_mem_nil _⟩⟩
theorem fix_refl {k:Nat}:eqF (n+2) H (fixV k) (fixV k)=some true:=eq_tup_refl (List.forall_mem_cons.mpr ⟨pI,List.forall_mem_cons.mpr ⟨pS,all2 pI pI⟩⟩)
theorem ent_refl {k:Nat}:eqF (n+2) H (entV k) (entV k)=some true:=eq_tup_refl (all2 pS pI)
theorem dat_refl:eqF (n+2) H datV datV=some true:=eq_tup_refl (all2 pS pI)
theorem rowV_refl {r:Row}:eqF (n+2) H (rowV r) (rowV r)=some true:=eq_tup_refl row_plain
theorem map_refl {α:Type} {f:α->V} {l:List α} (h:∀ y,eqF n H (f y) (f y)=some true):∀ x ∈ l.map f,eqF n H x x=some true:=fun x hx=>by
  obtain ⟨y,uu,rfl⟩:=List.mem_map.mp hx
  exact h y
theorem out_eq {out:Outc} (h:OutV H v (some out)) (h':OutV H v' (some out)):neF v' v H=some false:=by
  rcases h with uu | ⟨uu,kp,rfl,g⟩
  rcases h' with uu | ⟨uu,kp',rfl,g'⟩
  have h2:eqF 5 H (.ref kp') (.ref kp)=some true:=eq_list_refl g' g (map_refl fun uu=>eq_plain_refl pI)
  have key:eqF 6 H (out.tup kp') (out.tup kp)=some true:=by
    rcases out with ⟨n,p,kept⟩ | ⟨kept,r0,r11,r13,r14⟩
    · exact eq_tup rfl (eqFs_cons (eq_tup_refl (List.forall_mem_cons.mpr ⟨pS,all2 pI pI⟩)) (eqFs_cons h2 rfl))
    · exact eq_tup rfl (eqFs_cons (eq_plain_refl pS) (eqFs_cons h2 (eqFs_cons (eq_plain_refl pI) (eqFs_cons (eq_plain_refl pI) (eqFs_cons (eq_plain_refl pI) (eqFs_cons (eq_plain_refl pI) rfl))))))
  have:neF (out.tup kp') (out.tup kp) H=(eqF 6 H (out.tup kp') (out.tup kp)).map (!·):=by rcases out with uu | uu <;> rfl
  rw [this,key]; rfl
theorem OutV.ext {H':AH} {out:Option Outc} (h:OutV H v out) (e:Ext H H'):OutV H' v out:=by
  rcases h with e1 | ⟨out,kp,e1,g⟩
  · exact .none e1
  · exact .some out kp e1 (e _ _ g)
end
noncomputable def seedsL (x y:Nat):List Int:=[(x:Int),(y:Int),4294967295,0] ++ List.replicate 7 9 ++ [2000,9,0,1900,5000]
theorem seeds_ok {x y s:Nat} (hx:x<6) (hy:y<6):Okm (M0 (seedsL x y) s):=by
  refine ⟨rfl,fun i v hv=>?_,rfl,rfl,C0_cel⟩
  have small:∀ {k:Nat},k<4294967296->(0:Int)<=k/\(k:Int)<4294967296:=fun h=>⟨Int.natCast_nonneg _,Int.ofNat_lt.mpr h⟩
  have all:(seedsL x y).all (fun v=>decide (0<=v/\v<4294967296))=true:=Bool.and_eq_true_iff.mpr ⟨decide_eq_true (small (Nat.lt_trans hx (by decide))),Bool.and_eq_true_iff.mpr ⟨decide_eq_true (small (Nat.lt_trans hy (by decide))),rfl⟩⟩
  exact of_decide_eq_true (List.all_eq_true.mp all v (List.mem_of_getElem? hv))
end Mine.Wk
end
section
namespace Mine.Wk
open PySem
structure ImpP (o o':Ob) (pl:Nat->Nat):Prop where
  b:o'.body=pl o.body
  g:o'.go=pl o.go
  e:o'.ent=o.ent.map pl
  l:o'.rows.length<=o.rows.length
  r:∀ s,s=o.body \/ s=o.go \/ s ∈ o.ent->∀ (m:M) n out,Okm m->runF o.rows n { m with pc:=s } = some out->runF o'.rows n { m with pc:=pl s } = some out
theorem imp_of {o o':Ob} (h:Imp o o'):∃ pl,ImpP o o' pl:=by
  obtain ⟨pl,h1,h2,h3,h4,h5⟩:=h
  exact ⟨pl,h1,h2,h3,h4,h5⟩
noncomputable def Start (o:Ob) (s:Nat):Prop:=s=o.body \/ s=o.go \/ s ∈ o.ent
theorem ImpP.st {o o':Ob} {pl:Nat->Nat} (h:ImpP o o' pl) {s:Nat} (hs:Start o s):Start o' (pl s):=by
  rcases hs with e | e | e
  · exact .inl (e ▸ h.b.symm)
  · exact .inr (.inl (e ▸ h.g.symm))
  · exact .inr (.inr (h.e ▸ List.mem_map_of_mem e))
theorem zip_ents {f g h:Nat->V} {d:V}:∀ {l:List Nat},zipL [l.map f ++ [d],l.map g ++ [d],l.map h ++ [d]]=l.map (fun e=>V.tup [f e,g e,h e]) ++ [.tup [d,d,d]]
  | []=>rfl
  | x::l=>congrArg (V.tup [f x,g x,h x] :: ·) zip_ents
section
variable {n:Nat} {H:AH} {Q:PO} {s r a hd b g sd st s0 s1:Nat} {A B G:Adr} {o o1 o2:Ob} {p1 p2:Nat->Nat} {x5 x6 x7 x8 x12 x13 x14 x15:Option V} {ss:List MS} {ρ:Env}
noncomputable abbrev envW (s r a hd b:Nat) (x5 x6 x7 x8:Option V) (g sd st:Nat) (x12 x13 x14 x15:Option V):Env:=[some (.ref s),some (.ref r),some (.ref a),some (.ref hd),some (.ref b),x5,x6,x7,x8,some (.ref g),some (.ref sd),some (.ref st),x12,x13,x14,x15]
structure LawS (H:AH) (a b g sd:Nat) (A B G:Adr) (o o1 o2:Ob) (p1 p2:Nat->Nat) (s0 s1:Nat):Prop where
  ho:ObjAt H a A o
  hb:ObjAt H b B o1
  hg:ObjAt H g G o2
  hsd:H sd=some (.list ((seedsL s0 s1).map V.int))
  h0:s0<6
  h1:s1<6
  w:WF o
  w1:WF o1
  w2:WF o2
  i1:ImpP o o1 p1
  i2:ImpP o1 o2 p2
theorem LawS.ext {H':AH} (z:LawS H a b g sd A B G o o1 o2 p1 p2 s0 s1) (e:Ext H H'):LawS H' a b g sd A B G o o1 o2 p1 p2 s0 s1:=⟨z.ho.ext e,z.hb.ext e,z.hg.ext e,e _ _ z.hsd,z.h0,z.h1,z.w,z.w1,z.w2,z.i1,z.i2⟩
theorem wt_or2 {C:Cl} (hC:Mono C) {x y:ME} {ρ:Env} {K:Bool->AH->Prop} (h:wpT C x ρ H fun c H₁=>bif c then K true H₁ else wpT C y ρ H₁ fun d H₂=>K d H₂):wpT C (.or [x,y]) ρ H K:=wpT_mono hC x _ _ _ _ (fun c H₁ z=>by
  rcases c with uu | uu
  · exact wpT_mono hC y _ _ _ _ (fun d H₂ z=>by rcases d with uu | uu <;> exact z) z
  · exact z) h
noncomputable def trip (p1 p2:Nat->Nat) (e:Nat):V:=.tup [.int (e:Int),.int (p1 e:Nat),.int (p2 (p1 e):Nat)]
theorem run_w {f:Nat} {F:Adr} {oo:Ob} {i j x:Nat} {ρ:Env} {K:V->AH->Prop} (hO:ObjAt H f F oo) (w:WF oo) (hsd:H sd=some (.list ((seedsL s0 s1).map V.int))) (h0:s0<6) (h1:s1<6) (hs:Start oo x) (e1:getV ρ i=some (.ref f)) (e2:getV ρ j=some (.int x)) (e3:getV ρ 10=some (.ref sd))
    (q:∀ v H',Ext H H'->OutV H' v (runF oo.rows 80 (M0 (seedsL s0 s1) x))->K v H'):wpE (CN (n+4)) (.call "_law_ran" [.attr (.var i) "rows",.var j,.var 10]) ρ H K :=
  w_call (evs_cons (hO.ev e1 rfl) (evs_cons (ev_var e2) (evs_cons (ev_var e3) evs_nil))) (ran_spec w hO.hr hsd (start_lt w hs) (seeds_ok h0 h1) q)
theorem run_turn {y:Nat} {I:Env->AH->Prop} (z:LawS H a b g sd A B G o o1 o2 p1 p2 s0 s1) (hy:Start o y) (next:∀ x15 H',Ext H H'->I (envW s r a hd b x5 x6 x7 x8 g sd st (some (.int (y:Int))) (some (.int (p1 y:Nat))) (some (.int (p2 (p1 y):Nat))) x15) H') :
    Turn (CN (n+4)) (.many [12,13,14]) (trip p1 p2 y) f_law_l2 (Body I Q) (envW s r a hd b x5 x6 x7 x8 g sd st x12 x13 x14 x15) H:=by
  refine ⟨_,rfl,r_assignW CN_Mono (run_w z.ho z.w z.hsd z.h0 z.h1 hy rfl rfl rfl fun v H1 e1 hv=>?_)⟩
  have z1:=z.ext e1
  rcases hout:runF o.rows 80 (M0 (seedsL s0 s1) y) with uu | out <;> rw [hout] at hv
  · rcases hv with ⟨rfl⟩
    exact r_ifF CN_Mono (evt_and (evt_f (evt_cmp (ev_var rfl) ev_none rfl))) (rest_nil (next _ _ e1))
  · have r1:=z.i1.r y hy (M0 (seedsL s0 s1) y) 80 out (seeds_ok z.h0 z.h1) hout
    have r2:=z.i2.r (p1 y) (z.i1.st hy) (M0 (seedsL s0 s1) (p1 y)) 80 out (seeds_ok z.h0 z.h1) r1
    have hnn:isNoneF v=false:=by
      rcases hv with uu | ⟨uu,kp,rfl,uu⟩
      rcases out with uu | uu <;> rfl
    refine r_ifW CN_Mono (wt_and2 (c:=true) (evt_cmp (ev_var rfl) ev_none (congrArg (fun c=>some (!c)) hnn)) nofun (fun uu=>?_) CN_Mono)
    refine wt_or2 CN_Mono ?_
    refine wt_cmp CN_Mono (run_w z1.hb z.w1 z1.hsd z.h0 z.h1 (z.i1.st hy) rfl rfl rfl fun v2 H2 e2 hv2=>⟨v,false,ev_var rfl,out_eq (hv.ext e2) (r1 ▸ hv2),?_⟩)
    have z2:=z1.ext e2
    exact wt_cmp CN_Mono (run_w z2.hg z.w2 z2.hsd z.h0 z.h1 (z.i2.st (z.i1.st hy)) rfl rfl rfl fun v3 H3 e3 hv3=>⟨v,false,ev_var rfl,out_eq ((hv.ext e2).ext e3) (r2 ▸ hv3),rest_nil (next _ _ (e1.trans (e2.trans e3)))⟩)
inductive LrI (H:AH) (s r a hd b:Nat) (x5 x6 x7 x8:Option V) (g sd st:Nat) (ρ:Env) (H':AH):Prop
  | mk (x12 x13 x14 x15:Option V) (hρ:ρ = envW s r a hd b x5 x6 x7 x8 g sd st x12 x13 x14 x15) (e:Ext H H')
theorem law_runs (z:LawS H a b g sd A B G o o1 o2 p1 p2 s0 s1) (gst:H st=some (.list ((o.body::o.go::o.ent).map (trip p1 p2)))) (q:∀ ρ H,Q (.ret (.bool true)) ρ H) :
    rest (CN (n+4)) (f_law.body.drop 11) Q (envW s r a hd b x5 x6 x7 x8 g sd st x12 x13 x14 x15) H:=by
  refine r_for CN_Mono (ev_var rfl) (keys_list gst) (iter_list gst) (fun uu=>LrI H s r a hd b x5 x6 x7 x8 g sd st) ?_ ?_ ⟨_,_,_,_,rfl,.rfl⟩ ?_
  · rintro k ρ H' ⟨uu,uu,uu,uu,uu,e⟩
    exact still_list (e _ _ gst)
  · rintro k x ρ H' hx ⟨x12,x13,x14,x15,rfl,e⟩
    refine map_get hx fun y hy hv=>?_
    subst hv
    have hym:Start o y:=by
      rcases List.mem_of_getElem? hy with uu | ⟨uu,uu | ⟨uu,h⟩⟩
      · exact .inl rfl
      · exact .inr (.inl rfl)
      · exact .inr (.inr h)
    exact run_turn (z.ext e) hym fun x15 H2 e2=>⟨_,_,_,_,rfl,e.trans e2⟩
  · rintro ρ H' ⟨x12,x13,x14,x15,rfl,e⟩
    exact r_ret ev_bool (q _ _)
theorem r_forZip {C:Cl} (hC:Mono C) {tg:Tgt} {es:List ME} {all:List V} {b:List MS} {x y z:Nat} (h:Evs C es ρ H [.ref x,.ref y,.ref z]) (hz:zipAt H [x,y,z]=some all) (I:Nat->Env->AH->Prop) (hs:∀ i ρ H,I i ρ H->zipAt H [x,y,z]=some all)
    (hb:∀ i v ρ H,all[i]? = some v->I i ρ H->Turn C tg v b (Body (I (i+1)) Q) ρ H) (h0:I 0 ρ H) (he:∀ ρ H,I all.length ρ H->rest C ss Q ρ H):rest C (.forZip tg es b::ss) Q ρ H:=by
  have e:zipF [.ref x,.ref y,.ref z] H=some (.zip [x,y,z],all):=by show (zipAt H [x,y,z]).map _=_; rw [hz]; rfl
  exact ⟨h _ (iZ e (for_turn hC I hs (fun i v ρ H hx hI=>by
    obtain ⟨ρ',e,r⟩:=hb i v ρ H hx hI
    exact ⟨ρ',e,⟨wpSs_mono hC b _ _ _ _ (fun o ρ₁ H₁ z=>by rcases o with uu | uu <;> exact z) r.w⟩⟩) (fun ρ H hI=>(he ρ H hI).w) h0))⟩
noncomputable def tripV (p1 p2:Nat->Nat) (e:Nat):V:=.tup [entV e,entV (p1 e),entV (p2 (p1 e))]
theorem zip_at (z:LawS H a b g sd A B G o o1 o2 p1 p2 s0 s1):zipAt H [A.ens,B.ens,G.ens]=some (o.ent.map (tripV p1 p2) ++ [.tup [datV,datV,datV]]):=by
  have h2:=z.hb.he
  have h3:=z.hg.he
  rw [z.i1.e,List.map_map] at h2
  rw [z.i2.e,z.i1.e,List.map_map,List.map_map] at h3
  exact bind_of (listAt_of z.ho.he) (bind_of (listAt_of h2) (bind_of (listAt_of h3) (congrArg some zip_ents)))
inductive LeI (H:AH) (s r a hd b:Nat) (x5 x6 x7 x8:Option V) (g sd st:Nat) (o:Ob) (p1 p2:Nat->Nat) (k:Nat) (ρ:Env) (H':AH):Prop
  | mk (x12 x13 x14:Option V) (hρ:ρ = envW s r a hd b x5 x6 x7 x8 g sd st x12 x13 x14 none) (e:Ext H H') (gs:H' st=some (.list ((o.body::o.go::o.ent.take k).map (trip p1 p2))))
theorem ent_step {k:Nat} {v:V} (hst:H st=none) (w:WF o) {ρ:Env} {H':AH} (hx:(o.ent.map (tripV p1 p2) ++ [.tup [datV,datV,datV]])[k]? = some v) (h:LeI H s r a hd b x5 x6 x7 x8 g sd st o p1 p2 k ρ H') :
    Turn (CN n) (.many [12,13,14]) v f_law_l1 (Body (LeI H s r a hd b x5 x6 x7 x8 g sd st o p1 p2 (k+1)) Q) ρ H':=by
  obtain ⟨x12,x13,x14,rfl,e,gs⟩:=h
  refine get_snoc hx (fun hx=>map_get hx fun y hy hv=>?_) fun hk hv=>?_
  · subst hv
    have hl:((o.body::o.go::o.ent.take k).map (trip p1 p2)).length<10000:=by
      rw [List.length_map]
      exact Nat.lt_of_le_of_lt (Nat.add_le_add_right (Nat.add_le_add_right (Nat.le_trans (List.length_take_le' ..) w.entl) 1) 1) (by decide)
    refine ⟨_,rfl,r_ifF CN_Mono (evt_or (evo_f (evt_cmp (ev_sub (ev_var rfl) ev_int rfl) (ev_sub (ev_var rfl) ev_int rfl) rfl) (evo_f (evt_and (evt_f (evt_cmp (ev_sub (ev_var rfl) ev_int rfl) ev_str rfl))) evo_nil))) (r_ifT CN_Mono (evt_cmp (ev_sub (ev_var rfl) ev_int rfl) ev_str rfl)
      (r_append (v:=trip p1 p2 y) (ev_var rfl) gs hl (ev_tup (evs_cons (ev_sub (ev_var rfl) ev_int rfl) (evs_cons (ev_sub (ev_var rfl) ev_int rfl) (evs_cons (ev_sub (ev_var rfl) ev_int rfl) evs_nil)))) fun H2 m2=>rest_nil ⟨_,_,_,rfl,m2.ext e hst,?_⟩))⟩
    rw [m2.g,map_one,List.take_add_one,hy]; rfl
  · subst hv
    rw [List.length_map] at hk
    have hdd:neF datV datV H'=some false:=by show (eqF 6 H' datV datV).map (!·)=_; rw [dat_refl]; rfl
    refine ⟨_,rfl,r_ifF CN_Mono (evt_or (evo_f (evt_cmp (ev_sub (ev_var rfl) ev_int rfl) (ev_sub (ev_var rfl) ev_int rfl) rfl) (evo_f (evt_and (evt_t (evt_cmp (ev_sub (ev_var rfl) ev_int rfl) ev_str rfl) (evt_f (evt_cmp (ev_var rfl) (ev_var rfl) hdd)))) evo_nil))) (r_ifF CN_Mono (evt_cmp (ev_sub (ev_var rfl) ev_int rfl) ev_str rfl) (rest_nil ⟨_,_,_,rfl,e,?_⟩))⟩
    rw [gs,List.take_of_length_le (Nat.le_of_eq hk.symm),List.take_of_length_le (Nat.le_succ_of_le (Nat.le_of_eq hk.symm))]
theorem law_ents (z:LawS H a b g sd A B G o o1 o2 p1 p2 s0 s1) {H':AH} (N:New H st (.list ([o.body,o.go].map (trip p1 p2))) H') (q:∀ ρ H,Q (.ret (.bool true)) ρ H) :
    rest (CN (n+4)) (f_law.body.drop 9) Q (envW s r a hd b x5 x6 x7 x8 g sd st none none none none) H':=by
  have z1:=z.ext N.e
  refine r_forZip CN_Mono (evs_cons (z1.ho.ev rfl rfl) (evs_cons (z1.hb.ev rfl rfl) (evs_cons (z1.hg.ev rfl rfl) evs_nil))) (zip_at z1) (LeI H s r a hd b x5 x6 x7 x8 g sd st o p1 p2) ?_ (fun k v ρ H2 hx h=>ent_step N.n z.w hx h) ⟨_,_,_,rfl,N.e,N.g⟩ ?_
  · rintro k ρ H2 ⟨uu,uu,uu,uu,e,uu⟩
    exact zip_at (z.ext e)
  · rintro ρ H2 ⟨x12,x13,x14,rfl,e,gs⟩
    rw [List.take_of_length_le (by rw [List.length_append,List.length_map]; exact Nat.le_succ _)] at gs
    have z2:=z.ext e
    have l1:(o.ent.map entV ++ [datV]).length<=100000:=by rw [List.length_append,List.length_map]; exact Nat.le_trans (Nat.succ_le_succ z.w.entl) (by decide)
    have hel:(o1.ent.map entV ++ [datV]).length=(o.ent.map entV ++ [datV]).length:=by rw [z.i1.e,List.length_append,List.length_append,List.length_map,List.length_map,List.length_map]
    refine r_ifF CN_Mono (evt_or (evo_f (evt_cmp (ev_bi (evs_cons (z2.hb.ev rfl rfl) evs_nil) (len_list z2.hb.he (hel ▸ l1))) (ev_bi (evs_cons (z2.ho.ev rfl rfl) evs_nil) (len_list z2.ho.he l1)) ?_) (evo_f (evt_cmp (z2.hb.ev rfl rfl) ev_int rfl) (evo_f (evt_cmp (z2.hb.ev rfl rfl) ev_int rfl) evo_nil)))) (law_runs z2 gs q)
    rw [hel]
    exact congrArg (fun c=>some (!c)) (beq_self_eq_true _)
end
end Mine.Wk
end
section
namespace Mine.Wk
open PySem
section
variable {C:Cl} {ρ:Env} {H:AH} {x y:ME} {es:List ME} {a b:Nat} {xs ys:List V}
theorem w_list (hC:Mono C) {K:V->AH->Prop} (h:wpEs C es ρ H fun vs H₁=>∀ a H',New H₁ a (.list vs) H'->K (.ref a) H'):wpE C (.list es) ρ H K:=wpEs_mono hC es _ _ _ _ (fun vs H₁ z a ha=>z a _ (.mk' ha)) h
theorem addL (h:H a=some (.list xs)) (h2:H b=some (.list ys)) (hl:xs.length+ys.length<=1000):binF .add (.ref a) (.ref b) H=some (.new (.list (xs ++ ys))):=by
  show (listAt H a).bind _=_
  exact bind_of (listAt_of h) (bind_of (listAt_of h2) (if_pos hl))
inductive AddR (K:V->AH->Prop) (x y:V) (H:AH):Prop
  | mk (a b:Nat) (xs ys:List V) (e1:x = .ref a) (e2:y = .ref b) (h1:H a=some (.list xs)) (h2:H b=some (.list ys)) (l:xs.length+ys.length<=1000) (k:∀ z H',New H z (.list (xs ++ ys)) H'->K (.ref z) H')
theorem w_addL (hC:Mono C) {K:V->AH->Prop} (h:wpE C x ρ H fun v H₁=>wpE C y ρ H₁ fun w H₂=>AddR K v w H₂):wpE C (.bin .add x y) ρ H K:=wpE_mono hC x _ _ _ _ (fun v H₁ z=>wpE_mono hC y _ _ _ _ (fun w H₂ z=>by
  obtain ⟨a,b,xs,ys,rfl,rfl,h1,h2,l,k⟩:=z
  exact iR (r:=.new (.list (xs ++ ys))) (addL h1 h2 l) fun z hz=>k z _ (.mk' hz)) z) h
end
theorem trip_of {p1 p2:Nat->Nat} {x x1 x2:Nat} (h1:x1=p1 x) (h2:x2=p2 x1):trip p1 p2 x = .tup [.int x,.int x1,.int x2]:=by subst h1; subst h2; rfl
section
variable {n:Nat} {H:AH} {Q:PO} {s r a hd b g sd s0 s1:Nat} {A B G:Adr} {o o1 o2:Ob} {p1 p2:Nat->Nat} {x5 x6 x7 x8:Option V} {L:List Int}
theorem law_8 (z:LawS H a b g sd A B G o o1 o2 p1 p2 s0 s1) (q:∀ ρ H,Q (.ret (.bool true)) ρ H) :
    rest (CN (n+4)) (f_law.body.drop 8) Q [some (.ref s),some (.ref r),some (.ref a),some (.ref hd),some (.ref b),x5,x6,x7,x8,some (.ref g),some (.ref sd),none,none,none,none,none] H:=by
  refine r_new (ob:=.list ([o.body,o.go].map (trip p1 p2))) ?_ fun st H' N=>law_ents z N q
  rw [List.map_cons,List.map_cons,trip_of z.i1.b z.i2.b,trip_of z.i1.g z.i2.g]
  exact evn_list (evs_cons (ev_tup (evs_cons (z.ho.ev rfl rfl) (evs_cons (z.hb.ev rfl rfl) (evs_cons (z.hg.ev rfl rfl) evs_nil)))) (evs_cons (ev_tup (evs_cons (ev_sub (z.ho.ev rfl rfl) ev_str ((sub_ds z.ho.hc).trans rfl)) (evs_cons (ev_sub (z.hb.ev rfl rfl) ev_str ((sub_ds z.hb.hc).trans rfl)) (evs_cons (ev_sub (z.hg.ev rfl rfl) ev_str ((sub_ds z.hg.hc).trans rfl)) evs_nil)))) evs_nil))
theorem law_7 (hr:H r=some (intL L)) (hl:L.length<=1000) (ho:ObjAt H a A o) (hb:ObjAt H b B o1) (hg:ObjAt H g G o2) (w:WF o) (w1:WF o1) (w2:WF o2) (i1:ImpP o o1 p1) (i2:ImpP o1 o2 p2) (q:∀ ρ H,Q (.ret (.bool true)) ρ H) :
    rest (CN (n+4)) (f_law.body.drop 7) Q [some (.ref s),some (.ref r),some (.ref a),some (.ref hd),some (.ref b),x5,x6,x7,x8,some (.ref g),none,none,none,none,none,none] H:=by
  refine r_assignW CN_Mono (w_addL CN_Mono (w_addL CN_Mono (w_list CN_Mono (wes_w (w_nmod (k:=6) (by decide) rfl hr hl fun s0 H1 L1 k1 h0=>wes_w (w_nmod (k:=6) (by decide) rfl k1.g (Nat.le_trans k1.l hl) fun s1 H2 L2 k2 h1=>?_))))))
  have k:=k1.trans k2
  refine wes_ev (ev_bin pow32_at ev_int bF_sub) (wes_ev ev_int fun z1 H3 N3=>fill_w (k:=7) (by decide) ev_int fun z2 H4 N4=>⟨z1,z2,_,_,rfl,rfl,N4.e _ _ N3.g,N4.g,Nat.le_of_ble_eq_true rfl,fun z3 H5 N5=>evn_list (C:=CN (n+4)) (evs_cons ev_int (evs_cons ev_int (evs_cons ev_int (evs_cons ev_int (evs_cons ev_int evs_nil))))) _ fun z4 h4=>?_⟩)
  have N6:=New.mk' (ob:=.list [.int 2000,.int 9,.int 0,.int 1900,.int 5000]) h4
  have e6:=N3.e.trans (N4.e.trans (N5.e.trans N6.e))
  refine ⟨z3,z4,_,_,rfl,rfl,N6.e _ _ N5.g,N6.g,Nat.le_of_ble_eq_true rfl,fun sd H7 N7=>?_⟩
  have e:=e6.trans N7.e
  exact law_8 (s0:=s0) (s1:=s1) ⟨(ho.pop k hr).ext e,(hb.pop k hr).ext e,(hg.pop k hr).ext e,N7.g,h0,h1,w,w1,w2,i1,i2⟩ q
inductive LfI (s r a hd b:Nat) (H:AH) (ρ:Env) (H':AH):Prop
  | mk (x5 x6 x7 x8:Option V) (hρ:ρ = [some (.ref s),some (.ref r),some (.ref a),some (.ref hd),some (.ref b),x5,x6,x7,x8,none,none,none,none,none,none,none]) (e:H'=H)
theorem law_5 (hr:H r=some (intL L)) (hl:L.length<=1000) (ho:ObjAt H a A o) (hb:ObjAt H b B o1) (w:WF o) (w1:WF o1) (i1:ImpP o o1 p1) (q:∀ ρ H,Q (.ret (.bool true)) ρ H) :
    rest (CN (n+8)) (f_law.body.drop 5) Q [some (.ref s),some (.ref r),some (.ref a),some (.ref hd),some (.ref b),none,none,none,none,none,none,none,none,none,none,none] H:=by
  refine r_for CN_Mono (hb.ev rfl rfl) (keys_list hb.hf) (iter_list hb.hf) (fun uu=>LfI s r a hd b H) ?_ ?_ ⟨_,_,_,_,rfl,rfl⟩ ?_
  · rintro k ρ H' ⟨uu,uu,uu,uu,uu,rfl⟩
    exact still_list hb.hf
  · rintro k x ρ H' hx ⟨x5,x6,x7,x8,rfl,rfl⟩
    refine map_get hx fun i hi hv=>?_
    subst hv
    obtain ⟨op,ra,rc,hrow,hop⟩:=w1.fix i (List.mem_of_getElem? hi)
    have hil:=(List.getElem?_eq_some_iff.mp hrow).1
    refine ⟨_,rfl,r_ifF CN_Mono (evt_or (evo_f (evt_notF (evt_cmp2 (c1:=true) (c2:=true) ev_int (ev_var rfl) (ev_bi (evs_cons (hb.ev rfl rfl) evs_nil) (len_map hb.hr (c40' w1.len (by decide)))) (congrArg some (decide_eq_true (Int.natCast_nonneg i))) (congrArg some (decide_eq_true (Int.ofNat_lt.mpr hil))))) (evo_f (evt_cmp (ev_var rfl) ev_str rfl)
      (evo_f (evt_cmp (ev_sub (ev_sub (hb.ev rfl rfl) (ev_var rfl) (sub_row hb.hr hrow w1.len)) ev_int rfl) (ev_tup (evs_cons ev_str (evs_cons ev_str evs_nil))) ?_) evo_nil)))) (rest_nil ⟨_,_,_,_,rfl,rfl⟩)⟩
    rcases op with ⟨⟩
    · rfl
    · rfl
    · exact absurd rfl hop
  · rintro ρ H' ⟨x5,x6,x7,x8,rfl,rfl⟩
    refine r_assignW CN_Mono (w_call (evs_cons (ev_var rfl) evs_nil) (improve_spec hb w1 fun g G H2 o2 e2 hg good=>?_))
    obtain ⟨w2,im⟩:=good
    obtain ⟨p2,i2⟩:=imp_of im
    exact law_7 (n:=n+4) (e2 _ _ hr) hl (ho.ext e2) (hb.ext e2) hg w w1 w2 i1 i2 q
structure Held (H:AH) (hd:Nat) (o:Ob) (r1 f1 n1 c1:Nat):Prop where
  h:H hd=some (.list [.ref r1,.ref f1,.ref n1,.ref c1,.int o.body])
  r:H r1=some (.list (o.rows.map rowV))
  f:H f1=some (.list (o.fix.map fixV))
  n:H n1=some (.list (o.ent.map entV ++ [datV]))
  c:H c1=some (.ds false [("Go",.int o.go)])
theorem Held.ext {H':AH} {r1 f1 n1 c1:Nat} (h:Held H hd o r1 f1 n1 c1) (e:Ext H H'):Held H' hd o r1 f1 n1 c1:=⟨e _ _ h.h,e _ _ h.r,e _ _ h.f,e _ _ h.n,e _ _ h.c⟩
theorem eqE_ds {c c':Nat} {i:Int} (h:H c=some (.ds false [("Go",.int i)])) (h':H c'=some (.ds false [("Go",.int i)])):eqE (n+1) H (.ref c) (.ref c')=some true:=by
  unfold eqE
  show (match (dsAt H c).bind (fun ks=>(dsAt H c').map fun ls=>(ks,ls)) with | some q=>eqD (n+1) H q.1 q.2 | none=>eqF (n+1) H (.ref c) (.ref c'))=_
  rw [dsAt_of h,dsAt_of h']
  exact (if_pos rfl).trans (eqFs_cons (eq_plain_refl pI) rfl)
theorem held_eq {z r1 f1 n1 c1:Nat} (ho:ObjAt H a A o) (h:Held H hd o r1 f1 n1 c1) (hz:H z=some (.list [.ref A.rws,.ref A.fxs,.ref A.ens,.ref A.cms,.int o.body])):neF (.ref z) (.ref hd) H=some false:=by
  show (listAt H z).bind _=_
  refine bind_of (listAt_of hz) (bind_of (listAt_of h.h) ((if_pos rfl).trans ?_))
  exact congrArg (Option.map (fun c=>!c)) (eqFs_cons (eqE_list ho.hr h.r (map_refl fun uu=>rowV_refl)) (eqFs_cons (eqE_list ho.hf h.f (map_refl fun uu=>fix_refl)) (eqFs_cons (eqE_list ho.he h.n (all_app (map_refl fun uu=>ent_refl) dat_refl)) (eqFs_cons (eqE_ds ho.hc h.c) (eqFs_cons (show eqE 5 H (.int o.body) (.int o.body)=some true from eq_plain_refl (n:=4) (H:=H) pI) rfl)))))
theorem law_3 {r1 f1 n1 c1:Nat} (hr:H r=some (intL L)) (hl:L.length<=1000) (ho:ObjAt H a A o) (w:WF o) (h:Held H hd o r1 f1 n1 c1) (q:∀ ρ H,Q (.ret (.bool true)) ρ H) :
    rest (CN (n+8)) (f_law.body.drop 3) Q [some (.ref s),some (.ref r),some (.ref a),some (.ref hd),none,none,none,none,none,none,none,none,none,none,none,none] H:=by
  refine r_assignW CN_Mono (w_call (evs_cons (ev_var rfl) evs_nil) (improve_spec ho w fun b B H2 o1 e2 hb good=>?_))
  obtain ⟨w1,im⟩:=good
  obtain ⟨p1,i1⟩:=imp_of im
  have ho2:=ho.ext e2
  refine r_ifW CN_Mono (wt_or2 CN_Mono (wt_cmp CN_Mono (evn_list (C:=CN (n+8)) (evs_cons (ho2.ev rfl rfl) (evs_cons (ho2.ev rfl rfl) (evs_cons (ho2.ev rfl rfl) (evs_cons (ho2.ev rfl rfl) (evs_cons (ho2.ev rfl rfl) evs_nil))))) _ fun z hz=>?_)))
  have N:=New.mk' (ob:=.list [.ref A.rws,.ref A.fxs,.ref A.ens,.ref A.cms,.int o.body]) hz
  have hb3:=hb.ext N.e
  have ho3:=ho2.ext N.e
  refine ⟨.ref hd,false,ev_var rfl,held_eq ho3 ((h.ext e2).ext N.e) N.g,?_⟩
  refine evt_cmp (C:=CN (n+8)) (op:=.gt) (c:=false) (ev_bi (evs_cons (hb3.ev rfl rfl) evs_nil) (len_map hb3.hr (c40' w1.len (by decide)))) (ev_bi (evs_cons (ho3.ev rfl rfl) evs_nil) (len_map ho3.hr (c40' w.len (by decide)))) (congrArg some (decide_eq_false (Int.not_lt.mpr (Int.ofNat_le.mpr i1.l)))) _ ?_
  exact law_5 (N.e _ _ (e2 _ _ hr)) hl ho3 hb3 w w1 i1 q
theorem law_2 (hr:H r=some (intL L)) (hl:L.length<=1000) (ho:ObjAt H a A o) (w:WF o) (q:∀ ρ H,Q (.ret (.bool true)) ρ H) :
    rest (CN (n+8)) (f_law.body.drop 2) Q [some (.ref s),some (.ref r),some (.ref a),none,none,none,none,none,none,none,none,none,none,none,none,none] H:=by
  have l1:∀ {α:Type} {f:α->V} {l:List α},l.length<=40->(l.map f).length<=1000:=fun h=>by rw [List.length_map]; exact c40' h (by decide)
  refine r_assignW CN_Mono (w_list CN_Mono (wes_new (evn_bi (evs_cons (ho.ev rfl rfl) evs_nil) (list_list ho.hr (l1 w.len))) fun r1 H1 N1=>?_))
  have ho1:=ho.ext N1.e
  refine wes_new (evn_bi (evs_cons (ho1.ev rfl rfl) evs_nil) (list_list ho1.hf (l1 w.fixl))) fun f1 H2 N2=>?_
  have ho2:=ho1.ext N2.e
  refine wes_new (evn_bi (evs_cons (ho2.ev rfl rfl) evs_nil) (list_list ho2.he (c40' (ent_len w rfl) (by decide)))) fun n1 H3 N3=>?_
  have ho3:=ho2.ext N3.e
  refine wes_new (evn_bi (evs_cons (ho3.ev rfl rfl) evs_nil) (dict_ds ho3.hc (Nat.le_of_ble_eq_true rfl))) fun c1 H4 N4=>wes_ev ((ho3.ext N4.e).ev rfl rfl) fun hd H5 N5=>?_
  have e4:=N4.e.trans N5.e
  have e3:=N3.e.trans e4
  have e2:=N2.e.trans e3
  exact law_3 ((N1.e.trans e2) _ _ hr) hl (ho3.ext e4) w ⟨N5.g,e2 _ _ N1.g,e3 _ _ N2.g,e4 _ _ N3.g,N5.e _ _ N4.g⟩ q
end
theorem law_ok (is:List Int) (h63:is.length<=63) (H:AH) (s:Nat) (hs:H s=some (.flist (is.map V.int))) (h':∀ b,b ≠ s->H b=Option.none):wpSs (callN fns 20) f_law.body (initEnv f_law [.ref s]) H fun o uu uu=>o.val = .bool true:=by
  refine (r_assignW (C:=CN 20) CN_Mono (w_call (evs_cons (ev_var rfl) evs_nil) (law_row_spec hs (Nat.le_trans h63 (by decide)) fun r H1 L M1 hL=>?_)):rest (CN 20) f_law.body (fun o uu uu=>o.val = .bool true) [some (.ref s),none,none,none,none,none,none,none,none,none,none,none,none,none,none,none] H).w
  have f0:Fa H H1 [(r,intL L)]:=Fa.new (L:=[]) ⟨.rfl,List.forall_mem_nil _,.nil,List.forall_mem_nil _⟩ M1
  exact r_assignW CN_Mono (w_call (evs_cons (ev_var rfl) evs_nil) (object_spec M1.g (Nat.le_trans hL (by decide)) f0 fun a A H2 L2 o e2 ho gr hL2 w=>law_2 (n:=12) gr hL2 ho w fun uu uu=>rfl))
end Mine.Wk
end
section
open PySem PySem.W PyProof.Rows
set_option maxRecDepth 100000
namespace Mine
theorem noS {α:Type} {r:α} {P:Prop} (h:none=some r):P:=nomatch h
theorem listAt_e {H:AH} {a:Nat} {xs:List V} (h:listAt H a=some xs):H a=some (.list xs):=by
  unfold listAt at h
  revert h
  rcases H a with uu | ⟨⟨⟩⟩ <;> intro h <;> first | exact noS h | exact Option.some.inj h ▸ rfl
theorem dsAt_e {H:AH} {a:Nat} {xs:List (String × V)} (h:dsAt H a=some xs):∃ fz,H a=some (.ds fz xs):=by
  unfold dsAt at h
  revert h
  rcases H a with uu | ⟨⟨⟩⟩ <;> intro h <;> first | exact noS h | (obtain rfl:=Option.some.inj h; exact ⟨_,rfl⟩)
theorem fldAt_e {H:AH} {a:Nat} {p:Nat × List (String × V)} (h:fldAt H a=some p):H a=some (.inst p.1)/\H p.1=some (.ns p.2):=by
  unfold fldAt at h
  revert h
  rcases H a with uu | ⟨⟨⟩⟩ <;> try exact noS
  rename_i dx
  show (match H dx with | some (.ns kvs)=>some (dx,kvs) | _=>none)=some p->_
  rcases e:H dx with uu | ⟨⟨⟩⟩ <;> intro h <;> first | exact noS h | exact Option.some.inj h ▸ ⟨rfl,e⟩
theorem refs_e {x y:V} {p:Nat × Nat} (h:refs x y=some p):x = .ref p.1/\y = .ref p.2:=by
  rcases x with ⟨⟩ <;> try exact noS h
  rcases y with ⟨⟩ <;> first | exact noS h | exact Option.some.inj h ▸ ⟨rfl,rfl⟩
theorem ref1_e {vs:List V} {a:Nat} (h:ref1 vs=some a):vs=[.ref a]:=by
  rcases vs with uu | ⟨v,uu | ⟨w,r⟩⟩ <;> try exact noS h
  rcases v with ⟨⟩ <;> first | exact noS h | exact Option.some.inj h ▸ rfl
theorem int2_e {vs:List V} {p:Int × Int} (h:int2 vs=some p):vs=[.int p.1,.int p.2]:=by
  rcases vs with uu | ⟨v,uu | ⟨w,uu | ⟨u,r⟩⟩⟩ <;> try exact noS h
  rcases v with ⟨⟩ <;> try exact noS h
  rcases w with ⟨⟩ <;> first | exact noS h | exact Option.some.inj h ▸ rfl
theorem ite_e {α:Type} {c:Prop} [Decidable c] {x r:α} (h:(if c then some x else none)=some r):c/\x=r:=(Option.ite_none_right_eq_some.mp h).imp id Option.some.inj
theorem bind_e {α β:Type} {o:Option α} {f:α->Option β} {b:β} (h:o.bind f=some b):∃ a,o=some a/\f a=some b:=Option.bind_eq_some_iff.mp h
theorem ofString_inj {x y:String} (h:Str.ofString x=Str.ofString y):x=y:=by
  have h1:(Str.ofString x).cps.toList=(Str.ofString y).cps.toList:=by rw [h]
  unfold Str.ofString at h1
  simp only [List.toList_toArray,cpsOfBytes_string] at h1
  have h2:x.toList=y.toList:=by
    have inj:∀ (a b:List Char),a.map Char.toNat=b.map Char.toNat->a=b:=by
      intro a
      induction a with
      | nil=>intro b hb; cases b with
        | nil=>rfl
        | cons c t=>simp at hb
      | cons c t ih=>intro b hb; cases b with
        | nil=>simp at hb
        | cons d u=>
          simp only [List.map_cons,List.cons.injEq] at hb
          rw [ih u hb.2,Char.toNat_inj.mp hb.1]
    exact inj _ _ h1
  rw [<- String.ofList_toList (s:=x),<- String.ofList_toList (s:=y),h2]
theorem ofString_iff {x y:String}:Str.ofString x=Str.ofString y ↔ x=y:=⟨ofString_inj,fun h=>by rw [h]⟩
@[simp] theorem AH.set_self (H:AH) (a:Addr) (o:AO):H.set a o a=some o:=by simp [AH.set]
theorem AH.set_ne {H:AH} {a b:Addr} {o:AO} (h:b ≠ a):H.set a o b=H b:=by simp [AH.set,h]
noncomputable def AO.open:AO->Bool
  | .flist _=>false
  | .di true _=>false
  | .ds true _=>false
  | _=>true
noncomputable def Mu (H:AH) (a:Addr):Prop:=∃ o,H a=some o/\o.open=true
theorem noMu {H:AH} {a:Addr} (h:H a=none):¬ Mu H a:=fun m=>by
  obtain ⟨o,e,uu⟩:=m; rw [h] at e; cases e
theorem Mu_some {H:AH} {a:Addr} (h:Mu H a):∃ o,H a=some o:=by
  obtain ⟨o,e,uu⟩:=h; exact ⟨o,e⟩
structure GC where
  prog:Program
  w:World
  g₀:Heap
  C:Addr
  mg:Str->Option Value
  mb:Str->Option Value
  os:OsState
  drawn:Drawn
  X:Addr->Prop
variable (G:GC)
inductive RngOf (X:Addr->Prop) (h:Heap) (lo hi:Int) (v:Value):Prop
  | mk (a:Addr) (t u w:Tok) (e:v = .ref a) (r:IsRange h a lo hi 1 t u w) (n:¬ X a) (b:-1000<=lo/\lo<=1000 /\ -1000<=hi/\hi<=1000)
inductive TupOf (X:Addr->Prop) (h:Heap) (P:List Value->Prop) (v:Value):Prop
  | mk (a:Addr) (items:Array Value) (n:Nat) (e:v = .ref a) (g:h.get? a=some { cls:=.type "tuple",data:=.seq items n }) (x:¬ X a) (r:P items.toList)
inductive ConsOf (P:Value->Prop) (Q:List Value->Prop) (ys:List Value):Prop
  | mk (y:Value) (r:List Value) (e:ys=y::r) (p:P y) (q:Q r)
mutual
noncomputable def RepV (X:Addr->Prop) (h:Heap):V->Value->Prop
  | .none,v=>v = .none
  | .bool b,v=>v = .bool b
  | .int i,v=>∃ t,v = .int i t
  | .str x,v=>∃ t,v = .str (Str.ofString x) t
  | .ref a,v=>v = .ref a
  | .rng lo hi,v=>RngOf X h lo hi v
  | .tup vs,v=>TupOf X h (RepVs X h vs) v
  | .zip _,_=>False
noncomputable def RepVs (X:Addr->Prop) (h:Heap):List V->List Value->Prop
  | [],ys=>ys=[]
  | x::xs,ys=>ConsOf (RepV X h x) (RepVs X h xs) ys
end
inductive ListO (X:Addr->Prop) (h:Heap) (a:Addr) (vs:List V):Prop
  | mk (items:Array Value) (n:Nat) (l:IsL h a items n) (r:RepVs X h vs items.toList)
inductive FlistO (X:Addr->Prop) (h:Heap) (a:Addr) (vs:List V):Prop
  | mk (items:Array Value) (l:h.IsList a items) (r:RepVs X h vs items.toList)
inductive DiO (G:GC) (h:Heap) (a:Addr) (kvs:List (Int × V)):Prop
  | mk (cvs:List (Int × Value)) (d:h.DictOf (intKind G.prog G.w) a cvs) (k:cvs.map (·.1)=kvs.map (·.1)) (r:RepVs G.X h (kvs.map (·.2)) (cvs.map (·.2)))
inductive DsO (G:GC) (h:Heap) (a:Addr) (kvs:List (String × V)):Prop
  | mk (cvs:List (Str × Value)) (d:h.DictOf (strKind G.prog G.w) a cvs) (k:cvs.map (·.1)=kvs.map (fun p=>Str.ofString p.1)) (r:RepVs G.X h (kvs.map (·.2)) (cvs.map (·.2)))
inductive NsO (X:Addr->Prop) (h:Heap) (a:Addr) (kvs:List (String × V)):Prop
  | mk (mA:Str->Option Value) (n:h.Ns1 a mA) (w:Within mA (attrNames.map Str.ofString)) (r:∀ x v,dget kvs x=some v->∃ w,mA (Str.ofString x)=some w/\RepV X h v w)
inductive InstO (C:Addr) (h:Heap) (a dx:Addr):Prop
  | mk (n:dx ≠ a) (o:Obj) (e:h.get? a=some o) (c:o.cls = .ref C) (d:o.dict=some dx) (k:∀ c,o.data ≠ .cls c)
noncomputable def RepO (h:Heap) (a:Addr):AO->Prop
  | .list vs=>ListO G.X h a vs
  | .flist vs=>FlistO G.X h a vs
  | .di _ kvs=>DiO G h a kvs
  | .ds _ kvs=>DsO G h a kvs
  | .ns kvs=>NsO G.X h a kvs
  | .inst dx=>InstO G.C h a dx
noncomputable def immut (o:Obj):Prop:=(o.cls = .type "tuple" /\ ∃ items n,o.data = .seq items n) \/ (o.cls = .type "range" /\ ∃ vs,o.data = .fields vs)
noncomputable def Imm (X:Addr->Prop) (h h':Heap):Prop:=∀ a o,h.get? a=some o->immut o->¬ X a->h'.get? a=some o
variable {X:Addr->Prop}
theorem Imm.refl (h:Heap):Imm X h h:=fun uu uu e uu uu=>e
theorem Imm.trans {h₁ h₂ h₃:Heap} (x:Imm X h₁ h₂) (y:Imm X h₂ h₃):Imm X h₁ h₃:=fun a o e i n=>y a o (x a o e i n) i n
noncomputable def Imm2 (X X':Addr->Prop) (h h':Heap):Prop:=∀ a o,h.get? a=some o->immut o->¬ X a->h'.get? a=some o /\ ¬ X' a
mutual
theorem RepV.map {X X':Addr->Prop} {h h':Heap} (i:Imm2 X X' h h'):∀ {V':V} {v:Value},RepV X h V' v->RepV X' h' V' v
  | .none,_,e=>e
  | .bool _,_,e=>e
  | .int _,_,e=>e
  | .str _,_,e=>e
  | .ref _,_,e=>e
  | .zip _,_,e=>e
  | .rng _ _,_,e=>by
    obtain ⟨a,t,u,w,e1,e2,e3,e4⟩:=e
    obtain ⟨e2,e3⟩:=i _ _ e2 (Or.inr ⟨rfl,_,rfl⟩) e3
    exact ⟨a,t,u,w,e1,e2,e3,e4⟩
  | .tup _,_,e=>by
    obtain ⟨a,items,n,e1,e2,e3,e4⟩:=e
    obtain ⟨e2,e3⟩:=i _ _ e2 (Or.inl ⟨rfl,_,_,rfl⟩) e3
    exact ⟨a,items,n,e1,e2,e3,RepVs.map i e4⟩
theorem RepVs.map {X X':Addr->Prop} {h h':Heap} (i:Imm2 X X' h h'):∀ {Vs:List V} {vs:List Value},RepVs X h Vs vs->RepVs X' h' Vs vs
  | [],_,e=>e
  | _::_,_,e=>by
    obtain ⟨y,r,e1,e2,e3⟩:=e
    exact ⟨y,r,e1,RepV.map i e2,RepVs.map i e3⟩
end
theorem Imm.two {h h':Heap} (i:Imm X h h'):Imm2 X X h h':=fun a o e m n=>⟨i a o e m n,n⟩
theorem RepV.mono {h h':Heap} (i:Imm X h h') {V':V} {v:Value} (e:RepV X h V' v):RepV X h' V' v:=e.map i.two
theorem RepVs.mono {h h':Heap} (i:Imm X h h') {Vs:List V} {vs:List Value} (e:RepVs X h Vs vs):RepVs X h' Vs vs:=e.map i.two
theorem RepVs.length {h:Heap}:∀ {Vs:List V} {vs:List Value},RepVs X h Vs vs->vs.length=Vs.length
  | [],_,e=>by rw [show _=[] from e]; rfl
  | _::_,_,e=>by
    obtain ⟨y,r,e1,e2,e3⟩:=e
    rw [e1,List.length_cons,List.length_cons,RepVs.length e3]
theorem RepVs.get {h:Heap}:∀ {Vs:List V} {vs:List Value},RepVs X h Vs vs->∀ {i:Nat} {V':V},Vs[i]? = some V'->∃ v,vs[i]? = some v/\RepV X h V' v
  | [],_,_,i,V',x=>by simp at x
  | _::_,_,e,i,V',x=>by
    obtain ⟨y,r,e1,e2,e3⟩:=e
    subst e1
    cases i with
    | zero=>simp only [List.getElem?_cons_zero,Option.some.injEq] at x; subst x; exact ⟨y,rfl,e2⟩
    | succ j=>simp only [List.getElem?_cons_succ] at x ⊢; exact RepVs.get e3 x
theorem RepVs.append {h:Heap}:∀ {Vs Ws:List V} {vs ws:List Value},RepVs X h Vs vs->RepVs X h Ws ws->RepVs X h (Vs ++ Ws) (vs ++ ws)
  | [],_,_,_,e,f=>by rw [show _=[] from e]; exact f
  | _::_,_,_,_,e,f=>by
    obtain ⟨y,r,e1,e2,e3⟩:=e
    subst e1
    exact ⟨y,r ++ _,rfl,e2,RepVs.append e3 f⟩
theorem RepVs.one {h:Heap} {V':V} {v:Value} (e:RepV X h V' v):RepVs X h [V'] [v]:=⟨v,[],rfl,e,rfl⟩
theorem RepVs.of_get {h:Heap}:∀ {Vs:List V} {vs:List Value},vs.length=Vs.length->(∀ (i:Nat) (V':V) (v:Value),Vs[i]? = some V'->vs[i]? = some v->RepV X h V' v)->RepVs X h Vs vs
  | [],vs,hl,_=>by cases vs with
    | nil=>rfl
    | cons _ _=>simp at hl
  | V'::Vs,vs,hl,hg=>by cases vs with
    | nil=>simp at hl
    | cons v r=>exact ⟨v,r,rfl,hg 0 _ _ rfl rfl,RepVs.of_get (by simpa using hl) fun i W w e f=>hg (i+1) W w (by simpa using e) (by simpa using f)⟩
theorem RepVs.set {h:Heap}:∀ {Vs:List V} {vs:List Value} {i:Nat} {V':V} {v:Value},RepVs X h Vs vs->RepV X h V' v->RepVs X h (Vs.set i V') (vs.set i v)
  | [],_,_,_,_,e,_=>by rw [show _=[] from e]; rfl
  | _::_,_,0,_,_,e,f=>by
    obtain ⟨y,r,rfl,e2,e3⟩:=e
    exact ⟨_,r,rfl,f,e3⟩
  | _::_,_,i+1,_,_,e,f=>by
    obtain ⟨y,r,rfl,e2,e3⟩:=e
    exact ⟨y,_,rfl,e2,RepVs.set e3 f⟩
theorem RepVs.reverse {h:Heap}:∀ {Vs:List V} {vs:List Value},RepVs X h Vs vs->RepVs X h Vs.reverse vs.reverse
  | [],_,e=>by rw [show _=[] from e]; rfl
  | _::_,_,e=>by
    obtain ⟨y,r,rfl,e2,e3⟩:=e
    rw [List.reverse_cons,List.reverse_cons]
    exact (RepVs.reverse e3).append (RepVs.one e2)
theorem RepVs.take {h:Heap}:∀ {Vs:List V} {vs:List Value} (n:Nat),RepVs X h Vs vs->RepVs X h (Vs.take n) (vs.take n)
  | _,_,0,_=>by simp; rfl
  | [],_,n+1,e=>by rw [show _=[] from e]; rfl
  | _::_,_,n+1,e=>by
    obtain ⟨y,r,e1,e2,e3⟩:=e
    subst e1
    exact ⟨y,r.take n,rfl,e2,RepVs.take n e3⟩
theorem RepVs.drop {h:Heap}:∀ {Vs:List V} {vs:List Value} (n:Nat),RepVs X h Vs vs->RepVs X h (Vs.drop n) (vs.drop n)
  | _,_,0,e=>by simpa using e
  | [],_,n+1,e=>by rw [show _=[] from e]; rfl
  | _::_,_,n+1,e=>by
    obtain ⟨y,r,e1,e2,e3⟩:=e
    subst e1
    exact RepVs.drop n e3
structure StepX (Y:Addr->Prop) (H:AH) (s:Shared) (H':AH) (s':Shared):Prop where
  kp:∀ a o,s.heap.get? a=some o->¬ Mu H a->¬ Y a->s'.heap.get? a=some o
  al:∀ a,s'.heap.get? a=none->s.heap.get? a=none
  dom:∀ a,Mu H' a->Mu H a \/ s.heap.get? a=none
  dm:∀ a o,s.heap.get? a=some o->H a=none->H' a=none
  gens:s'.gens=s.gens
  os:s'.os=s.os
  drawn:s'.drawn=s.drawn
noncomputable abbrev Step:=StepX fun uu=>False
theorem StepX.refl {Y:Addr->Prop} {H:AH} {s:Shared}:StepX Y H s H s:=⟨fun uu uu e uu uu=>e,fun uu e=>e,fun uu h=>.inl h,fun uu uu uu h=>h,rfl,rfl,rfl⟩
theorem StepX.old {Y:Addr->Prop} {H H':AH} {s s':Shared} (x:StepX Y H s H' s') {a:Addr} {o:Obj} (e:s.heap.get? a=some o) (n:¬ Mu H a):¬ Mu H' a :=
  fun m=>(x.dom a m).elim n fun q=>by rw [e] at q; cases q
theorem StepX.trans {Y:Addr->Prop} {H H₁ H₂:AH} {s s₁ s₂:Shared} (x:StepX Y H s H₁ s₁) (y:StepX Y H₁ s₁ H₂ s₂):StepX Y H s H₂ s₂ where
  kp:=fun a o e hm hY=>y.kp a o (x.kp a o e hm hY) (x.old e hm) hY
  al:=fun a e=>x.al a (y.al a e)
  dom:=fun a m=>(y.dom a m).elim (fun q=>x.dom a q) fun q=>.inr (x.al a q)
  dm:=fun a o e h=>by
    cases q:s₁.heap.get? a with
    | none=>rw [x.al a q] at e; cases e
    | some o'=>exact y.dm a o' q (x.dm a o e h)
  gens:=y.gens.trans x.gens
  os:=y.os.trans x.os
  drawn:=y.drawn.trans x.drawn
theorem StepX.weaken {X Y:Addr->Prop} {H H':AH} {s s':Shared} (x:StepX X H s H' s') (h:∀ a,X a->Y a):StepX Y H s H' s' :=
  ⟨fun a o e m n=>x.kp a o e m fun q=>n (h a q),x.al,x.dom,x.dm,x.gens,x.os,x.drawn⟩
theorem Step.to {X:Addr->Prop} {H H':AH} {s s':Shared} (x:Step H s H' s'):StepX X H s H' s':=x.weaken fun uu h=>h.elim
theorem StepX.fresh {X:Addr->Prop} {H H':AH} {s s':Shared} (x:StepX X H s H' s') (h:∀ a,X a->s.heap.get? a=none):Step H s H' s' where
  kp:=fun a o e m uu=>x.kp a o e m fun q=>by
    have:=h a q
    rw [e] at this; cases this
  al:=x.al
  dom:=x.dom
  dm:=x.dm
  gens:=x.gens
  os:=x.os
  drawn:=x.drawn
structure Rep (H:AH) (s:Shared):Prop where
  own:∀ a o,H a=some o->RepO G s.heap a o
  ground:∀ a o,G.g₀.get? a=some o->s.heap.get? a=some o
  gmut:∀ a o,G.g₀.get? a=some o->H a=none
  xl:∀ a,G.X a->H a=none /\ ∃ o,s.heap.get? a=some o
  gens:s.gens = #[]
  os:s.os=G.os
  drawn:s.drawn=G.drawn
variable {G}
theorem cls_ne {o:Obj} {T:String} (e:o.cls = .type T) (h1:T ≠ "tuple") (h2:T ≠ "range"):¬ immut o:=fun q=>q.elim (fun q=>h1 (Value.type.inj (e.symm.trans q.1))) fun q=>h2 (Value.type.inj (e.symm.trans q.1))
inductive Alive (h:Heap) (a:Addr):Prop
  | mk (ob:Obj) (e:h.get? a=some ob) (n:¬ immut ob)
theorem RepO.alive {h:Heap} {a:Addr}:∀ {o:AO},RepO G h a o->Alive h a
  | .list _,e=>by obtain ⟨items,n,e1,uu⟩:=e; exact ⟨_,e1,cls_ne (T := "list") rfl (by decide) (by decide)⟩
  | .flist _,e=>by obtain ⟨items,⟨o,e1,e2,uu⟩,uu⟩:=e; exact ⟨o,e1,cls_ne e2 (by decide) (by decide)⟩
  | .di _ _,e=>by obtain ⟨cvs,⟨o,es,ep,e1,e2,uu⟩,uu⟩:=e; exact ⟨o,e1,cls_ne e2.1 (by decide) (by decide)⟩
  | .ds _ _,e=>by obtain ⟨cvs,⟨o,es,ep,e1,e2,uu⟩,uu⟩:=e; exact ⟨o,e1,cls_ne e2.1 (by decide) (by decide)⟩
  | .ns _,e=>by
    obtain ⟨mA,⟨o,es,ep,e1,e2,uu⟩,uu⟩:=e
    exact ⟨o,e1,fun i=>i.elim (fun q=>q.2.elim fun uu q=>q.elim fun uu q=>nomatch e2.symm.trans q) fun q=>q.2.elim fun uu q=>nomatch e2.symm.trans q⟩
  | .inst _,e=>by obtain ⟨uu,o,e1,e2,uu⟩:=e; exact ⟨o,e1,fun i=>i.elim (fun q=>nomatch e2.symm.trans q.1) fun q=>nomatch e2.symm.trans q.1⟩
noncomputable def GC.hide (G:GC) (X:Addr->Prop):GC:={ G with X:=X }
theorem RepO.map {X':Addr->Prop} {h h':Heap} {a:Addr} (i:Imm2 G.X X' h h') (k:∀ o,h.get? a=some o->h'.get? a=some o):∀ {o:AO},RepO G h a o->RepO (G.hide X') h' a o
  | .list _,e=>by obtain ⟨items,n,e1,e2⟩:=e; exact ⟨items,n,k _ e1,e2.map i⟩
  | .flist _,e=>by obtain ⟨items,⟨o,e1,r⟩,e2⟩:=e; exact ⟨items,⟨o,k _ e1,r⟩,e2.map i⟩
  | .di _ _,e=>by obtain ⟨cvs,⟨o,es,ep,e1,e2⟩,e3,e4⟩:=e; exact ⟨cvs,⟨o,es,ep,k _ e1,e2⟩,e3,e4.map i⟩
  | .ds _ _,e=>by obtain ⟨cvs,⟨o,es,ep,e1,e2⟩,e3,e4⟩:=e; exact ⟨cvs,⟨o,es,ep,k _ e1,e2⟩,e3,e4.map i⟩
  | .ns _,e=>by obtain ⟨mA,⟨o,es,ep,e1,r⟩,e2,e3⟩:=e; exact ⟨mA,⟨o,es,ep,k _ e1,r⟩,e2,fun x v q=>(e3 x v q).imp fun uu z=>⟨z.1,z.2.map i⟩⟩
  | .inst _,e=>by obtain ⟨e0,o,e1,c1,d1,k1⟩:=e; exact ⟨e0,o,k _ e1,c1,d1,k1⟩
theorem RepO.keep {h h':Heap} {a:Addr} (i:Imm G.X h h') (k:h.get? a=h'.get? a) {o:AO} (e:RepO G h a o):RepO G h' a o:=e.map i.two fun uu x=>k.symm.trans x
theorem Rep.lt {H:AH} {s:Shared} (R:Rep G H s) {a:Addr} {o:AO} (h:H a=some o):a<s.heap.objs.size:=by
  obtain ⟨ob,e,uu⟩:=(R.own a o h).alive; exact Heap.lt_size e
theorem Rep.fresh {H:AH} {s:Shared} (R:Rep G H s) {a:Addr} (h:s.heap.get? a=none):H a=none:=by
  rcases e:H a with uu | o
  · rfl
  · obtain ⟨ob,q,uu⟩:=(R.own a o e).alive; exact nomatch h.symm.trans q
theorem none_size (h:Heap):h.get? h.objs.size=none:=Heap.get?_none_of_le (Nat.le_refl _)
theorem al1 {h h':Heap} {a:Addr} (k:∀ o,h.get? a=some o->h'.get? a=some o) (e:h'.get? a=none):h.get? a=none:=by
  rcases q:h.get? a with uu | o
  · rfl
  · exact nomatch e.symm.trans (k o q)
theorem al_of {h h':Heap} (k:∀ b o,h.get? b=some o->h'.get? b=some o) {a:Addr} (e:h'.get? a=none):h.get? a=none:=al1 (k a) e
theorem ne_new {h:Heap} {a b:Addr} {o:Obj} (n:h.get? a=none) (e:h.get? b=some o):b ≠ a:=fun hb=>nomatch n.symm.trans (show h.get? a=some o from hb ▸ e)
theorem ne_H {H:AH} {a b:Addr} {o:AO} (n:H a=none) (e:H b=some o):b ≠ a:=fun hb=>nomatch n.symm.trans (show H a=some o from hb ▸ e)
theorem Rep.notImm {H:AH} {s:Shared} (R:Rep G H s) {a:Addr} {ob:Obj} (h:s.heap.get? a=some ob) (i:immut ob):H a=none:=by
  rcases e:H a with uu | o
  · rfl
  · obtain ⟨ob',e',n⟩:=(R.own a o e).alive
    exact (n (Option.some.inj (h.symm.trans e') ▸ i)).elim
theorem StepX.imm {X:Addr->Prop} {H H':AH} {s s':Shared} (R:Rep G H s) (x:StepX X H s H' s') (hX:∀ a o,X a->s.heap.get? a=some o->¬ immut o):Imm G.X s.heap s'.heap :=
  fun a o e i uu=>x.kp a o e (fun m=>by obtain ⟨o',q⟩:=Mu_some m; rw [R.notImm e i] at q; cases q) fun q=>hX a o q e i
theorem Step.imm {H H':AH} {s s':Shared} (R:Rep G H s) (x:Step H s H' s'):Imm G.X s.heap s'.heap:=StepX.imm R x fun uu uu q=>q.elim
theorem RepV.step {H H':AH} {s s':Shared} {a:V} {v:Value} (e:RepV G.X s.heap a v) (R:Rep G H s) (x:Step H s H' s'):RepV G.X s'.heap a v:=e.mono (x.imm R)
theorem RepVs.step {H H':AH} {s s':Shared} {a:List V} {v:List Value} (e:RepVs G.X s.heap a v) (R:Rep G H s) (x:Step H s H' s'):RepVs G.X s'.heap a v:=e.mono (x.imm R)
theorem Rep.tok {H:AH} {s:Shared} (R:Rep G H s) (t:Nat):Rep G H { s with toks:=t }:=⟨R.own,R.ground,R.gmut,R.xl,R.gens,R.os,R.drawn⟩
theorem StepX.tok {X:Addr->Prop} {H:AH} {s:Shared} (t:Nat):StepX X H s H { s with toks:=t }:=⟨fun uu uu e uu uu=>e,fun uu e=>e,fun uu h=>.inl h,fun uu uu uu h=>h,rfl,rfl,rfl⟩
theorem Rep.grow {H:AH} {s:Shared} (R:Rep G H s) {h':Heap} (t:Nat) (k:∀ b o,s.heap.get? b=some o->h'.get? b=some o):Rep G H { s with heap:=h',toks:=t } where
  own:=fun a o e=>by
    obtain ⟨ob,q,uu⟩:=(R.own a o e).alive
    exact RepO.keep (fun b o' e' uu uu=>k b o' e') (q.trans (k _ _ q).symm) (R.own a o e)
  ground:=fun a o e=>k _ _ (R.ground a o e)
  gmut:=R.gmut
  xl:=fun a x=>⟨(R.xl a x).1,by obtain ⟨o,e⟩:=(R.xl a x).2; exact ⟨o,k _ _ e⟩⟩
  gens:=R.gens
  os:=R.os
  drawn:=R.drawn
theorem StepX.grow {X:Addr->Prop} {H:AH} {s:Shared} {h':Heap} (t:Nat) (k:∀ b o,s.heap.get? b=some o->h'.get? b=some o) :
    StepX X H s H { s with heap:=h',toks:=t }:=⟨fun a o e uu uu=>k a o e,fun uu e=>al_of k e,fun uu h=>.inl h,fun uu uu uu h=>h,rfl,rfl,rfl⟩
theorem Mu_set {H:AH} {a b:Addr} {o:AO}:Mu (H.set a o) b->b=a \/ Mu H b:=by
  intro h
  by_cases hb:b=a
  · exact .inl hb
  · right; unfold Mu at h ⊢; rw [AH.set_ne hb] at h; exact h
theorem not_Mu_set {H:AH} {a b:Addr} {o:AO} (h1:b ≠ a) (h2:¬ Mu H b):¬ Mu (H.set a o) b:=fun m=>(Mu_set m).elim h1 h2
theorem Rep.ngr {H:AH} {s:Shared} (R:Rep G H s) {a b:Addr} {o:Obj} (m:Mu H a) (e:G.g₀.get? b=some o):b ≠ a:=fun hb=>by
  obtain ⟨oo,z⟩:=Mu_some m; rw [<- hb,R.gmut b o e] at z; cases z
theorem Rep.gnm {H:AH} {s:Shared} (R:Rep G H s) {b:Addr} {o:Obj} (e:G.g₀.get? b=some o):¬ Mu H b:=fun m=>R.ngr m e rfl
theorem Rep.upd {H:AH} {s:Shared} (R:Rep G H s) {a:Addr} {o':AO} {h':Heap} (t:Nat) (m:Mu H a) (k:∀ b o,b ≠ a->s.heap.get? b=some o->h'.get? b=some o)
    (e:RepO G h' a o'):Rep G (H.set a o') { s with heap:=h',toks:=t } where
  own:=fun b o eb=>by
    by_cases hb:b=a
    · subst hb; rw [AH.set_self] at eb; cases eb; exact e
    · rw [AH.set_ne hb] at eb
      obtain ⟨ob,q,uu⟩:=(R.own b o eb).alive
      refine RepO.keep (fun c o' e' i uu=>k c o' (fun hc=>?_) e') (q.trans (k _ _ hb q).symm) (R.own b o eb)
      subst hc
      obtain ⟨oo,z⟩:=Mu_some m
      rw [R.notImm e' i] at z; cases z
  ground:=fun b o eb=>k b o (fun hb=>R.ngr m eb hb) (R.ground b o eb)
  gmut:=fun b o eb=>(AH.set_ne (fun hb=>R.ngr m eb hb)).trans (R.gmut b o eb)
  xl:=fun b x=>by
    have hb:b ≠ a:=fun hb=>by obtain ⟨oo,z⟩:=Mu_some m; rw [<- hb,(R.xl b x).1] at z; cases z
    obtain ⟨o,e⟩:=(R.xl b x).2
    exact ⟨(AH.set_ne hb).trans (R.xl b x).1,o,k _ _ hb e⟩
  gens:=R.gens
  os:=R.os
  drawn:=R.drawn
theorem StepX.upd {X:Addr->Prop} {H:AH} {s:Shared} {a:Addr} {o':AO} {h':Heap} (t:Nat) (m:Mu H a) (k:∀ b o,b ≠ a->s.heap.get? b=some o->h'.get? b=some o)
    (e:RepO G h' a o'):StepX X H s (H.set a o') { s with heap:=h',toks:=t } where
  kp:=fun b o e n uu=>k b o (fun hb=>n (hb ▸ m)) e
  al:=fun b q=>by
    by_cases hb:b=a
    · subst hb
      obtain ⟨ob,z,uu⟩:=e.alive
      have q:h'.get? b=none:=q
      rw [q] at z; cases z
    · cases z:s.heap.get? b with
      | none=>rfl
      | some o=>
        have q:h'.get? b=none:=q
        rw [k b o hb z] at q; cases q
  dom:=fun b q=>(Mu_set q).elim (fun hb=>.inl (hb ▸ m)) .inl
  dm:=fun b o e q=>by
    have hb:b ≠ a:=fun hb=>by obtain ⟨oo,z⟩:=Mu_some m; rw [<- hb,q] at z; cases z
    rw [AH.set_ne hb]; exact q
  gens:=rfl
  os:=rfl
  drawn:=rfl
theorem Rep.new {H:AH} {s:Shared} (R:Rep G H s) {a:Addr} {o':AO} {h':Heap} (t:Nat) (f:s.heap.get? a=none) (k:∀ b o,s.heap.get? b=some o->h'.get? b=some o)
    (e:RepO G h' a o'):Rep G (H.set a o') { s with heap:=h',toks:=t } where
  own:=fun b o eb=>by
    by_cases hb:b=a
    · subst hb; rw [AH.set_self] at eb; cases eb; exact e
    · rw [AH.set_ne hb] at eb
      exact (R.grow t k).own b o eb
  ground:=fun b o eb=>k b o (R.ground b o eb)
  gmut:=fun b o eb=>by
    have hb:b ≠ a:=fun hb=>by rw [<- hb,R.ground b o eb] at f; cases f
    exact (AH.set_ne hb).trans (R.gmut b o eb)
  xl:=fun b x=>by
    obtain ⟨o,e⟩:=(R.xl b x).2
    have hb:b ≠ a:=fun hb=>by rw [<- hb,e] at f; cases f
    exact ⟨(AH.set_ne hb).trans (R.xl b x).1,o,k _ _ e⟩
  gens:=R.gens
  os:=R.os
  drawn:=R.drawn
theorem StepX.new {X:Addr->Prop} {H:AH} {s:Shared} {a:Addr} {o':AO} {h':Heap} (t:Nat) (f:s.heap.get? a=none) (k:∀ b o,s.heap.get? b=some o->h'.get? b=some o) :
    StepX X H s (H.set a o') { s with heap:=h',toks:=t } where
  kp:=fun b o e uu uu=>k b o e
  al:=fun b e=>al_of k e
  dom:=fun b q=>(Mu_set q).elim (fun hb=>.inr (hb ▸ f)) .inl
  dm:=fun b o e q=>by
    have hb:b ≠ a:=fun hb=>by rw [<- hb,e] at f; cases f
    rw [AH.set_ne hb]; exact q
  gens:=rfl
  os:=rfl
  drawn:=rfl
end Mine
end
section
open PySem PySem.W PyProof.Rows
set_option maxRecDepth 100000
namespace Mine
variable {G:GC}
noncomputable abbrev FI:=List (Str × NameKind)
structure EnvOK (fi:FI) (env:PySem.Env):Prop where
  kind:env.scope.kind = .function
  names:env.scope.names=fi
  globals:env.globals=mainGlobals
  builtins:env.builtins=builtinsNs
  nodup:(fi.map (·.1)).Nodup
inductive NsR (G:GC) (fi:FI) (L:Addr) (ρ:Env) (h:Heap):Prop
  | mk (m:Str->Option Value) (n:h.Ns L m) (r:∀ i x v,fi[i]? = some (x,NameKind.local)->getV ρ i=some v->∃ val,m x=some val/\RepV G.X h v val)
inductive CellR (G:GC) (env:PySem.Env) (H:AH) (ρ:Env) (h:Heap) (i:Nat) (x:Str) (k:NameKind):Prop
  | mk (c:Addr) (ov:Option Value) (e:env.cells.lookup x=some c) (n:H c=none/\(k=NameKind.cell->G.g₀.get? c=none)) (o:h.IsCell c ov) (r:∀ v,getV ρ i=some v->∃ val,ov=some val/\RepV G.X h v val)
structure FrR (G:GC) (fi:FI) (env:PySem.Env) (H:AH) (ρ:Env) (s:Shared):Prop where
  nL:H env.locals=none
  gL:G.g₀.get? env.locals=none
  ns:NsR G fi env.locals ρ s.heap
  cells:∀ i x k,fi[i]? = some (x,k)->(k=NameKind.cell \/ k=NameKind.free)->CellR G env H ρ s.heap i x k
  inj:∀ x y c,env.cells.lookup x=some c->env.cells.lookup y=some c->x=y
noncomputable def ownX (fi:FI) (env:PySem.Env):Addr->Prop:=fun a=>a=env.locals \/ ∃ x,fi.lookup x=some NameKind.cell/\env.cells.lookup x=some a
theorem lookup_of_get:∀ {fi:FI},(fi.map (·.1)).Nodup->∀ {i:Nat} {x:Str} {k:NameKind},fi[i]? = some (x,k)->fi.lookup x=some k
  | [],_,i,x,k,h=>noS h
  | (y,kk)::r,hn,0,x,k,h=>by
    obtain ⟨rfl,rfl⟩:=Prod.mk.inj (Option.some.inj h)
    rw [List.lookup_cons,beq_self_eq_true]
  | (y,kk)::r,hn,j+1,x,k,h=>by
    have hn:=List.nodup_cons.mp hn
    have hne:x ≠ y:=fun e=>hn.1 (e ▸ List.mem_map.mpr ⟨(x,k),List.mem_of_getElem? h,rfl⟩)
    rw [List.lookup_cons,beq_eq_false_iff_ne.mpr hne]
    exact lookup_of_get hn.2 h
theorem get_inj {fi:FI} (hn:(fi.map (·.1)).Nodup) {i j:Nat} {x:Str} {k l:NameKind} (h:fi[i]? = some (x,k)) (h':fi[j]? = some (x,l)):i=j:=by
  have e1:(fi.map (·.1))[i]? = some x:=by rw [List.getElem?_map,h]; rfl
  have e2:(fi.map (·.1))[j]? = some x:=by rw [List.getElem?_map,h']; rfl
  obtain ⟨hi,e1'⟩:=List.getElem?_eq_some_iff.mp e1
  obtain ⟨hj,e2'⟩:=List.getElem?_eq_some_iff.mp e2
  exact (List.getElem_inj hn).mp (e1'.trans e2'.symm)
theorem notImm_dict {o:Obj} {es ep} (h:o.data = .dict es ep):¬ immut o:=fun i=>i.elim (fun q=>q.2.elim fun uu q=>q.elim fun uu q=>nomatch h.symm.trans q) fun q=>q.2.elim fun uu q=>nomatch h.symm.trans q
theorem notImm_cell {o:Obj} {v} (h:o.data = .cell v):¬ immut o:=fun i=>i.elim (fun q=>q.2.elim fun uu q=>q.elim fun uu q=>nomatch h.symm.trans q) fun q=>q.2.elim fun uu q=>nomatch h.symm.trans q
inductive DictO (h:Heap) (a:Addr):Prop
  | mk (o:Obj) (e:h.get? a=some o) (es:Array DictEntry) (ep:Nat) (d:o.data = .dict es ep)
theorem ns_o {h:Heap} {a:Addr} {m:Str->Option Value} (n:h.Ns a m):DictO h a:=by
  obtain ⟨o,es,ep,e,d,uu⟩:=n; exact ⟨o,e,es,ep,d⟩
theorem ns_keep {h h':Heap} {a:Addr} {m:Str->Option Value} (n:h.Ns a m) (k:∀ o,h.get? a=some o->h'.get? a=some o):h'.Ns a m:=by
  obtain ⟨o,es,ep,e,r⟩:=n; exact ⟨o,es,ep,k o e,r⟩
theorem cell_keep {h h':Heap} {a:Addr} {v:Option Value} (n:h.IsCell a v) (k:∀ o,h.get? a=some o->h'.get? a=some o):h'.IsCell a v:=by
  obtain ⟨o,e,r⟩:=n; exact ⟨o,k o e,r⟩
theorem cell_dict {h:Heap} {a:Addr} {v:Option Value} (n:h.IsCell a v) (d:DictO h a):False:=by
  obtain ⟨o,e,r⟩:=n
  obtain ⟨o',e',es,ep,r'⟩:=d
  obtain rfl:=Option.some.inj (e.symm.trans e')
  exact nomatch r.symm.trans r'
section
variable {fi:FI} {env:PySem.Env} {H H':AH} {ρ ρ':Env} {s s':Shared} {h h':Heap}
theorem FrR.dictL (F:FrR G fi env H ρ s):DictO s.heap env.locals:=by obtain ⟨uu,n,uu⟩:=F.ns; exact ns_o n
theorem FrR.alive (F:FrR G fi env H ρ s):∃ o,s.heap.get? env.locals=some o /\ ∃ es ep,o.data = .dict es ep:=by
  obtain ⟨o,e,es,ep,d⟩:=F.dictL; exact ⟨o,e,es,ep,d⟩
theorem FrR.notImm (hn:(fi.map (·.1)).Nodup) (F:FrR G fi env H ρ s):∀ a o,ownX fi env a->s.heap.get? a=some o->¬ immut o:=by
  rintro a o (rfl | ⟨x,h1,h2⟩) e
  · obtain ⟨o',e',es,ep,d⟩:=F.dictL
    obtain rfl:=Option.some.inj (e.symm.trans e')
    exact notImm_dict d
  · obtain ⟨j,hj,hx⟩:=List.mem_iff_getElem.mp (mem_of_lookup h1)
    obtain ⟨c,ov,k1,uu,⟨o',e',d⟩,uu⟩:=F.cells j x _ (by rw [List.getElem?_eq_getElem hj,hx]) (.inl rfl)
    obtain rfl:=Option.some.inj (h2.symm.trans k1)
    obtain rfl:=Option.some.inj (e.symm.trans e')
    exact notImm_cell d
theorem NsR.keep {L:Addr} (n:NsR G fi L ρ h) (k:∀ o,h.get? L=some o->h'.get? L=some o) (im:Imm G.X h h'):NsR G fi L ρ h':=by
  obtain ⟨m,n,r⟩:=n
  exact ⟨m,ns_keep n k,fun i x v h1 h2=>(r i x v h1 h2).imp fun uu z=>⟨z.1,z.2.mono im⟩⟩
theorem FrR.move (F:FrR G fi env H ρ s) (dm:∀ a o,s.heap.get? a=some o->H a=none->H' a=none) (im:Imm G.X s.heap s'.heap) (kL:∀ o,s.heap.get? env.locals=some o->s'.heap.get? env.locals=some o)
    (kC:∀ (i:Nat) (n:Str) (k:NameKind) (c:Addr),fi[i]? = some (n,k)->(k=NameKind.cell \/ k=NameKind.free)->env.cells.lookup n=some c->H c=none->∀ o,s.heap.get? c=some o->s'.heap.get? c=some o):FrR G fi env H' ρ s' where
  nL:=by obtain ⟨o,e,uu⟩:=F.dictL; exact dm _ o e F.nL
  gL:=F.gL
  ns:=F.ns.keep kL im
  cells i y k h1 h2:=by
    obtain ⟨c,ov,e1,e2,e3,e4⟩:=F.cells i y k h1 h2
    exact ⟨c,ov,e1,⟨e3.elim fun o z=>dm _ o z.1 e2.1,e2.2⟩,cell_keep e3 (kC i y k c h1 h2 e1 e2.1),fun v hv=>(e4 v hv).imp fun uu z=>⟨z.1,z.2.mono im⟩⟩
  inj:=F.inj
theorem FrR.step (F:FrR G fi env H ρ s) (R:Rep G H s) (x:Step H s H' s'):FrR G fi env H' ρ s' :=
  F.move x.dm (x.imm R) (fun o e=>x.kp _ o e (noMu F.nL) id) fun uu uu uu c uu uu uu hc o e=>x.kp c o e (noMu hc) id
end
variable {X:Addr->Prop}
theorem rInt {h:Heap} {i:Int} {t:Tok}:RepV X h (.int i) (.int i t):=⟨t,rfl⟩
theorem rStr {h:Heap} {x:String} {t:Tok}:RepV X h (.str x) (.str (Str.ofString x) t):=⟨t,rfl⟩
theorem rBool {h:Heap} {b:Bool}:RepV X h (.bool b) (.bool b):=rfl
theorem rNone {h:Heap}:RepV X h .none .none:=rfl
theorem rRef {h:Heap} {a:Addr}:RepV X h (.ref a) (.ref a):=rfl
inductive PA {α β:Type} (G:GC) (rel:Heap->β->α->Prop) (H:AH) (s:Shared) (Q:β->AH->Prop) (v:α) (s':Shared):Prop
  | mk (b:β) (H':AH) (st:Step H s H' s') (R:Rep G H' s') (e:rel s'.heap b v) (q:Q b H')
noncomputable abbrev PV (G:GC) (H:AH) (s:Shared) (Q:V->AH->Prop):Value->Shared->Prop:=PA G (RepV G.X) H s Q
noncomputable abbrev F0:Value->Shared->Prop:=fun uu uu=>False
theorem PA.lift {α β:Type} {rel:Heap->β->α->Prop} {H H₁:AH} {s s₁:Shared} {Q:β->AH->Prop} (x:Step H s H₁ s₁) {v:α} {s':Shared} (h:PA G rel H₁ s₁ Q v s'):PA G rel H s Q v s':=by
  obtain ⟨b,H',x',r,e,q⟩:=h; exact ⟨b,H',x.trans x',r,e,q⟩
theorem PA.bind {α β α' β':Type} {M:Model} {A:Around} {t:Sem α} {f:α->Sem α'} {rel:Heap->β->α->Prop} {rel':Heap->β'->α'->Prop} {H:AH} {s:Shared} {Q₁:β->AH->Prop} {Q:β'->AH->Prop}
    (h:wpAny M A t (PA G rel H s Q₁) F0 s)
    (k:∀ b H₁ v s₁,Step H s H₁ s₁->Rep G H₁ s₁->rel s₁.heap b v->Q₁ b H₁->wpAny M A (f v) (PA G rel' H₁ s₁ Q) F0 s₁):wpAny M A (t >>= f) (PA G rel' H s Q) F0 s :=
  wpAny_bind (wpAny_mono h (fun v s₁ ⟨b,H₁,x,r,e,q⟩=>wpAny_mono (k b H₁ v s₁ x r e q) (fun uu uu z=>z.lift x) fun uu uu z=>z) fun uu uu z=>z)
theorem PA.then {α β:Type} {M:Model} {A:Around} {t:Sem α} {rel:Heap->β->α->Prop} {H:AH} {s:Shared} {Q₁:β->AH->Prop} {R:α->Shared->Prop} {E:Value->Shared->Prop}
    (h:wpAny M A t (PA G rel H s Q₁) F0 s)
    (k:∀ b H₁ v s₁,Step H s H₁ s₁->Rep G H₁ s₁->rel s₁.heap b v->Q₁ b H₁->R v s₁):wpAny M A t R E s :=
  wpAny_mono h (fun v s₁ ⟨b,H₁,x,r,e,q⟩=>k b H₁ v s₁ x r e q) fun uu uu z=>z.elim
theorem PA.from {α β:Type} {M:Model} {A:Around} {t:Sem α} {rel:Heap->β->α->Prop} {H H₁:AH} {s s₁:Shared} {Q:β->AH->Prop}
    (x:Step H s H₁ s₁) (h:wpAny M A t (PA G rel H₁ s₁ Q) F0 s₁):wpAny M A t (PA G rel H s Q) F0 s₁:=wpAny_mono h (fun uu uu z=>z.lift x) fun uu uu z=>z
theorem PA.tok {α β:Type} {rel:Heap->β->α->Prop} {H:AH} {s:Shared} {Q:β->AH->Prop} {b:β} {v:α} (R:Rep G H s) (t:Nat) (e:rel s.heap b v) (q:Q b H):PA G rel H s Q v { s with toks:=t } :=
  ⟨b,H,StepX.tok t,R.tok t,e,q⟩
theorem PA.same {α β:Type} {rel:Heap->β->α->Prop} {H:AH} {s:Shared} {Q:β->AH->Prop} {b:β} {v:α} (R:Rep G H s) (e:rel s.heap b v) (q:Q b H):PA G rel H s Q v s :=
  ⟨b,H,StepX.refl,R,e,q⟩
noncomputable def Room (k:Nat) (A:Around):Prop:=A.handled=none/\A.depth+4*k+2<=900/\A.units+20*k+10<=9000
noncomputable def RoomC (k:Nat) (A:Around):Prop:=A.handled=none/\A.depth+4*k<=900/\A.units+20*k<=9000
theorem Room.depth {k:Nat} {A:Around} (h:Room k A):A.depth<recursionLimit:=by
  have:=h.2.1; show A.depth<1000; omega
theorem Room.units {k:Nat} {A:Around} (h:Room k A):A.units+500<cLine:=by
  have:=h.2.2; show A.units+500<9900; omega
theorem RoomC.depth {k:Nat} {A:Around} (h:RoomC k A):A.depth<recursionLimit:=by
  have:=h.2.1; show A.depth<1000; omega
theorem Room.c {k:Nat} {A:Around} (h:Room k A):RoomC k A:=⟨h.1,by have:=h.2.1; omega,by have:=h.2.2; omega⟩
theorem RoomC.deeper {k:Nat} {A:Around} (h:RoomC (k+1) A) (env:PySem.Env):Room k (A.deeper env):=by
  refine ⟨h.1,?_,?_⟩
  · have:=h.2.1; show A.depth+1+4*k+2<=900; omega
  · have:=h.2.2; show A.units+3+20*k+10<=9000; omega
noncomputable def WE (G:GC) (fi:FI) (k:Nat) (e:Expr) (ρ:Env) (H:AH) (Q:V->AH->Prop):Prop :=
  ∀ A env s,Room k A->EnvOK fi env->Rep G H s->FrR G fi env H ρ s->wpAny (model G.prog G.w) A (eval e env) (PV G H s Q) F0 s
noncomputable def WT (G:GC) (fi:FI) (k:Nat) (e:Expr) (ρ:Env) (H:AH) (Q:Bool->AH->Prop):Prop :=
  ∀ A env s,Room k A->EnvOK fi env->Rep G H s->FrR G fi env H ρ s->wpAny (model G.prog G.w) A (isTrue e env (eval e env)) (PA G (fun uu b v=>b=v) H s Q) F0 s
noncomputable def WEs (G:GC) (fi:FI) (k:Nat) (es:List Expr) (ρ:Env) (H:AH) (Q:List V->AH->Prop):Prop :=
  ∀ A env s pos,Room k A->EnvOK fi env->Rep G H s->FrR G fi env H ρ s->wpAny (model G.prog G.w) A (spliced (backTo pos (starEach es env))) (PA G (RepVs G.X) H s Q) F0 s
section
variable {fi:FI} {k:Nat} {ρ:Env} {H:AH}
theorem WE.mono {e:Expr} {Q Q':V->AH->Prop} (h:WE G fi k e ρ H Q) (q:∀ v H',Q v H'->Q' v H'):WE G fi k e ρ H Q' :=
  fun A env s r o R F=>wpAny_mono (h A env s r o R F) (fun uu uu2 ⟨b,H',x,r',e',z⟩=>⟨b,H',x,r',e',q _ _ z⟩) fun uu uu z=>z
theorem loadVar {A:Around} {env:PySem.Env} {s:Shared} {Q:V->AH->Prop} {i:Nat} {x:Str} {kd:NameKind} {v:V} (o:EnvOK fi env) (R:Rep G H s) (F:FrR G fi env H ρ s)
    (hi:fi[i]? = some (x,kd)) (hk:kd = .local \/ kd = .cell \/ (kd = .free/\(x == ("__classdict__" : Str))=false)) (hv:getV ρ i=some v) (q:Q v H) :
    wpAny (model G.prog G.w) A (loadName env x) (PV G H s Q) F0 s:=by
  have hko:env.kindOf x=some kd:=by show env.scope.names.lookup x=_; rw [o.names]; exact lookup_of_get o.nodup hi
  rcases hk with rfl | rfl | ⟨rfl,hcd⟩
  · obtain ⟨m,n1,n2⟩:=F.ns
    obtain ⟨val,e1,e2⟩:=n2 i x v hi hv
    exact wpAny_loadName_local o.kind hko n1 e1 (PA.same R e2 q)
  · obtain ⟨c,ov,e1,uu,e3,e4⟩:=F.cells i x _ hi (.inl rfl)
    obtain ⟨val,rfl,e5⟩:=e4 v hv
    exact wpAny_loadName_cell o.kind hko e1 e3 (PA.same R e5 q)
  · obtain ⟨c,ov,e1,uu,e3,e4⟩:=F.cells i x _ hi (.inr rfl)
    obtain ⟨val,rfl,e5⟩:=e4 v hv
    exact wpAny_loadName_free o.kind hko e1 e3 (PA.same R e5 q) hcd
theorem WE.var {i:Nat} {x:Str} {kd:NameKind} {pos:Pos} {v:V} {Q:V->AH->Prop} (hd:(x == ("__debug__" : Str))=false)
    (hi:fi[i]? = some (x,kd)) (hk:kd = .local \/ kd = .cell \/ (kd = .free/\(x == ("__classdict__" : Str))=false)) (hv:getV ρ i=some v) (q:Q v H):WE G fi k (.Name x pos) ρ H Q :=
  fun A env s r o R F=>wpAny_Name (loadVar o R F hi hk hv q) hd
theorem WE.int {i:Int} {n:Nat} {pos:Pos} {Q:V->AH->Prop} (q:Q (.int i) H):WE G fi k (.Constant (.int i) n pos) ρ H Q :=
  fun A env s r o R F=>wpAny_Constant_int (PA.tok R _ rInt q)
theorem WE.str {x:String} {n:Nat} {pos:Pos} {Q:V->AH->Prop} (q:Q (.str x) H):WE G fi k (.Constant (.str (Str.ofString x)) n pos) ρ H Q :=
  fun A env s r o R F=>wpAny_Constant_str (PA.tok R _ rStr q)
theorem WE.bool {b:Bool} {n:Nat} {pos:Pos} {Q:V->AH->Prop} (q:Q (.bool b) H):WE G fi k (.Constant (.bool b) n pos) ρ H Q :=
  fun A env s r o R F=>wpAny_Constant_bool (PA.same R rBool q)
theorem WE.none {n:Nat} {pos:Pos} {Q:V->AH->Prop} (q:Q .none H):WE G fi k (.Constant .none n pos) ρ H Q :=
  fun A env s r o R F=>wpAny_Constant_none (PA.same R rNone q)
end
end Mine
end
section
open PySem PySem.W PyProof.Rows
set_option maxRecDepth 100000
namespace Mine
variable {G:GC}
structure GOK (G:GC):Prop where
  nolimit:G.g₀.NoLimit
  g:G.g₀.Ns mainGlobals G.mg
  b:G.g₀.Ns builtinsNs G.mb
  sysm:∃ o,G.g₀.get? sysModules=some o
  cls:∃ N mN fI oI,ClsAt G.g₀ G.C N mN/\mN "__setattr__" = none/\mN "__getattribute__" = none/\(∀ x ∈ attrNames,mN (Str.ofString x)=none) /\
    mN "__init__" = some (.ref fI)/\G.g₀.get? fI=some oI/\oI.cls = .type "function"
section
variable {fi:FI} {k:Nat} {ρ:Env} {H:AH}
theorem PA.val {H:AH} {s:Shared} {Q:V->AH->Prop} {b:V} {v:Value} {t:Nat} (R:Rep G H s) (e:RepV G.X s.heap b v) (q:Q b H):PV G H s Q v { s with toks:=t } :=
  ⟨b,H,StepX.tok t,R.tok t,e,q⟩
theorem PA.newList {H:AH} {s:Shared} {Q:V->AH->Prop} {vs:List V} {xs:Array Value} (R:Rep G H s) (e:RepVs G.X s.heap vs xs.toList) {n:Nat} {h':Heap} {a:Addr} {t:Nat}
    (ha:s.heap.get? a=none) (hk:∀ b o,s.heap.get? b=some o->h'.get? b=some o)
    (hl:IsL h' a xs n) (q:∀ a,H a=none->Q (.ref a) (H.set a (.list vs))):PV G H s Q (.ref a) { s with heap:=h',toks:=t }:=by
  have e':RepO G h' a (.list vs):=⟨xs,n,hl,e.mono fun b o e' uu uu=>hk b o e'⟩
  exact ⟨.ref a,_,StepX.new t ha hk,R.new t ha hk e',rfl,q a (R.fresh ha)⟩
theorem PA.pushList {H:AH} {s:Shared} {Q:V->AH->Prop} {vs:List V} {xs:Array Value} {n:Nat} (R:Rep G H s) (e:RepVs G.X s.heap vs xs.toList)
    (q:∀ a,H a=none->Q (.ref a) (H.set a (.list vs))):PV G H s Q (.ref s.heap.objs.size) { s with heap:=s.heap.push { cls:=.type "list",data:=.seq xs n } } :=
  PA.newList (t:=s.toks) R e (none_size _) (fun uu uu e=>Heap.get?_push_of_some _ e) (Heap.get?_push_size _ rfl) q
noncomputable def opP:BOp->Operator
  | .add=>.Add | .sub=>.Sub | .mul=>.Mult | .fdiv=>.FloorDiv | .mod=>.Mod | .pow=>.Pow | .land=>.BitAnd | .lor=>.BitOr | .lxor=>.BitXor | .shl=>.LShift | .shr=>.RShift
noncomputable def opOk (op:BOp) (op':Operator):Bool:=op' == opP op
theorem small_of {a:Int} (h:small a=true):a.natAbs<2 ^ 64:=by simpa [small] using h
theorem Room.hn {k:Nat} {A:Around} (h:Room k A):A.handled=none:=h.1
theorem Rep.nolimit (gk:GOK G) {H:AH} {s:Shared} (R:Rep G H s):s.heap.NoLimit:=gk.nolimit.keeps R.ground
theorem Rep.list {H:AH} {s:Shared} (R:Rep G H s) {a:Addr} {vs:List V} (h:H a=some (.list vs)):ListO G.X s.heap a vs:=R.own a _ h
inductive ListS (X:Addr->Prop) (h:Heap) (a:Addr) (vs:List V):Prop
  | mk (items:Array Value) (n:Nat) (l:IsL h a items n) (r:RepVs X h vs items.toList) (z:items.size=vs.length)
theorem Rep.list' {H:AH} {s:Shared} (R:Rep G H s) {a:Addr} {vs:List V} (h:H a=some (.list vs)):ListS G.X s.heap a vs:=by
  obtain ⟨items,n,h1,h2⟩:=R.list h
  exact ⟨items,n,h1,h2,h2.length⟩
theorem noPylong64 {a b:Int} (h:b.natAbs<2 ^ 64):Builtin.divisionGoesByPylong a b=false:=by
  refine PyProof.noPylong_of_log2 ?_
  by_cases h0:b.natAbs=0
  · rw [h0]; decide +kernel
  · have:=(Nat.log2_lt h0).mpr h
    simp at this ⊢; omega
theorem foldl_rep (items:Array Value):∀ (n:Nat) (acc:Array Value),(List.foldl (fun x1 x2=>x1 ++ x2) acc (List.replicate n items)).toList=acc.toList ++ (List.replicate n items.toList).flatten
  | 0,acc=>by simp
  | n+1,acc=>by rw [List.replicate_succ,List.foldl_cons,foldl_rep items n]; simp [List.replicate_succ]
theorem RepVs.flat {X:Addr->Prop} {h:Heap} {vs:List V} {xs:List Value} (e:RepVs X h vs xs):∀ n:Nat,RepVs X h (List.replicate n vs).flatten (List.replicate n xs).flatten
  | 0=>by simp [RepVs]
  | n+1=>by simp only [List.replicate_succ,List.flatten_cons]; exact RepVs.append e (RepVs.flat e n)
theorem mul_list_at {A:Around} {E:Value->Shared->Prop} {s:Shared} {prog:Program} {w:World} {l:Addr} {items:Array Value} {n:Nat} {x:Int} {u:Tok} {Q:Value->Shared->Prop}
    (hl:IsL s.heap l items n) (hlo:-(2 ^ 63:Int)<=x) (hhi:x<2 ^ 63) (hsz:items.size*x.toNat<=2 ^ 24)
    (h:Q (.ref s.heap.objs.size) { s with heap:=s.heap.push { cls:=.type "list",data:=.seq (List.foldl (fun x1 x2=>x1 ++ x2) #[] (List.replicate (if items.isEmpty=true then 0 else x.toNat) items)) } }) :
    wpAny (model prog w) A (binaryOp .Mult (.ref l) (.int x u)) Q E s :=
  wpAny_binaryOp_repeat_ref (T := "list") (U := "int") (by decide) ⟨_,hl,rfl⟩ (fun s'=>typeIs_int s' x u) noFill_list_mul F.fills_int_mul F.slot_int_rmul repeat_list F.slot_int_index.lookup
    (call_meets F.slot_int_rmul (typeIs_int s x u) F.entry_int_rmul (F.args_int_rmul_2 _ _) (int___rmul___int_list x u l items n)
      ⟨hl,rfl,⟨_,hl,rfl⟩,call_meets F.slot_list_mul ⟨_,hl,rfl⟩ F.entry_list_mul (F.args_list_mul_2 _ _)
        (AutoListH.list___mul___list_int_3 l items n x u (by simp [Builtin.List.listFitsIndex]; omega) (by omega) (by simp [Builtin.List.listTooLong,sizeLine]; omega))
        ⟨hl,h⟩⟩)
theorem add_list_at {A:Around} {E:Value->Shared->Prop} {s:Shared} {prog:Program} {w:World} {l b:Addr} {xs ys:Array Value} {n m:Nat} {Q:Value->Shared->Prop}
    (hl:IsL s.heap l xs n) (hb:IsL s.heap b ys m) (hsz:xs.size+ys.size<=sizeLine)
    (h:Q (.ref s.heap.objs.size) { s with heap:=s.heap.push { cls:=.type "list",data:=.seq (xs ++ ys) } }) :
    wpAny (model prog w) A (binaryOp .Add (.ref l) (.ref b)) Q E s :=
  concat_meets ⟨_,hl,rfl⟩ ⟨_,hb,rfl⟩ noFill_list_add seq_list_add PySem.F.slot_list_add PySem.F.entry_list_add (PySem.F.args_list_add_2 _ _) (list_addW l b xs ys n m none none #[] #[] hsz) ⟨hl,hb,h⟩
theorem powFits {a n:Int} (ha:a.natAbs<=256) (h0:0<=n) (h1:n<=64):(Builtin.Int.intBits a:Int)*n<=2 ^ 27:=by
  have h9:Builtin.Int.intBits a<=9:=intBits_le (k:=9) (by omega)
  have:(Builtin.Int.intBits a:Int)*n<=9*64:=Int.mul_le_mul (by omega) h1 h0 (by omega)
  omega
theorem binI_sound {A:Around} {s:Shared} (R:Rep G H s) {op:BOp} {a b:Int} {t u:Tok} {r:Rs} (h:binI op a b=some r) {Q:V->AH->Prop} (q:retR r H Q) :
    wpAny (model G.prog G.w) A (binaryOp (opP op) (.int a t) (.int b u)) (PV G H s Q) F0 s:=by
  rcases op with ⟨⟩
  · obtain rfl:=Option.some.inj h; exact PyProof.Rows.add_int (PA.val R rInt q)
  · obtain rfl:=Option.some.inj h; exact PyProof.Rows.sub_int' (PA.val R rInt q)
  · obtain ⟨hs,rfl⟩:=ite_e h; exact PyProof.Rows.mul_int (PA.val R rInt q) (IntMulOk.of_left (intBits_le (small_of (Bool.and_eq_true_iff.mp hs).1)))
  · obtain ⟨hs,rfl⟩:=ite_e h; exact PyProof.Rows.floordiv_int hs.1 (PA.val R rInt q) (.inl (noPylong64 (small_of hs.2)))
  · obtain ⟨hs,h⟩:=Option.ite_none_left_eq_some.mp h
    obtain rfl:=Option.some.inj h; exact PyProof.Rows.mod_int' hs (PA.val R rInt q)
  · obtain ⟨hs,rfl⟩:=ite_e h; exact PyProof.Rows.pow_int hs.1 (powFits hs.2.2 hs.1 hs.2.1) (PA.val R rInt q)
  · obtain rfl:=Option.some.inj h; exact PyProof.Rows.and_int (PA.val R rInt q)
  · obtain rfl:=Option.some.inj h; exact PyProof.Rows.or_int (PA.val R rInt q)
  · obtain rfl:=Option.some.inj h; exact PyProof.Rows.xor_int (PA.val R rInt q)
  · obtain ⟨hs,rfl⟩:=ite_e h; exact PyProof.Rows.lshift_int_small hs.1 (Int.le_trans hs.2.1 (by decide)) (small_of hs.2.2) (PA.val R rInt q)
  · obtain ⟨hs,rfl⟩:=ite_e h; exact PyProof.Rows.rshift_int hs (PA.val R rInt q)
theorem rep_flat {X:Addr->Prop} {h:Heap} {xs:List V} {items:Array Value} (l2:RepVs X h xs items.toList) (n:Nat) :
    RepVs X h (List.replicate n xs).flatten (List.foldl (fun x1 x2=>x1 ++ x2) #[] (List.replicate (if items.isEmpty=true then 0 else n) items)).toList:=by
  rw [foldl_rep]
  by_cases hx:items.isEmpty=true
  · have e:items.toList=[]:=by simpa using hx
    obtain rfl:xs=[]:=List.length_eq_zero_iff.mp (l2.length.symm.trans (congrArg List.length e))
    rw [if_pos hx,e]; simp [RepVs]
  · rw [if_neg hx]; exact l2.flat n
theorem bin_sound (gk:GOK G) {A:Around} {s:Shared} (Rm:Room k A) (R:Rep G H s) {op:BOp} {op':Operator} (ho:opOk op op'=true) {x y:V} {a b:Value}
    (ea:RepV G.X s.heap x a) (eb:RepV G.X s.heap y b) {r:Rs} (h:binF op x y H=some r) {Q:V->AH->Prop} (q:retR r H Q) :
    wpAny (model G.prog G.w) A (binaryOp op' a b) (PV G H s Q) F0 s:=by
  obtain rfl:=beq_iff_eq.mp ho
  rcases x with ⟨⟩ <;> try exact noS h
  · rcases y with ⟨⟩ <;> try exact noS h
    obtain ⟨t,rfl⟩:=ea; obtain ⟨u,rfl⟩:=eb
    exact binI_sound R h q
  · obtain rfl:=ea
    rcases op with ⟨⟩ <;> try exact noS h
    · rcases y with ⟨⟩ <;> try exact noS h
      obtain rfl:=eb
      obtain ⟨xs,h1,h⟩:=bind_e h
      obtain ⟨ys,h2,h⟩:=bind_e h
      obtain ⟨hsz,rfl⟩:=ite_e h
      obtain ⟨xs',n,l1,l2,l3⟩:=R.list' (listAt_e h1)
      obtain ⟨ys',m,m1,m2,m3⟩:=R.list' (listAt_e h2)
      refine add_list_at l1 m1 ?_ (PA.pushList R (by rw [Array.toList_append]; exact l2.append m2) q)
      rw [l3,m3,sizeLine_eq]; exact Nat.le_trans hsz (by decide)
    · rcases y with ⟨⟩ <;> try exact noS h
      obtain ⟨u,rfl⟩:=eb
      obtain ⟨xs,h1,h⟩:=bind_e h
      obtain ⟨hsz,rfl⟩:=ite_e h
      obtain ⟨xs',n',l1,l2,l3⟩:=R.list' (listAt_e h1)
      exact mul_list_at l1 (Int.le_trans (by decide) hsz.2.2) (Int.lt_of_le_of_lt hsz.2.1 (by decide)) (by rw [l3]; exact Nat.le_trans hsz.1 (by decide)) (PA.pushList R (rep_flat l2 _) q)
end
end Mine
end
section
open PySem PySem.W PyProof.Rows PySem.SeqAt
set_option maxRecDepth 100000
namespace Mine
variable {G:GC}
section
variable {fi:FI} {k:Nat} {ρ:Env} {H:AH}
theorem eqFs_c {e:V->V->Option Bool} {x y:V} {xs ys:List V} {b:Bool} (h:eqFs e (x::xs) (y::ys)=some b):∃ c d,e x y=some c/\eqFs e xs ys=some d/\(c && d)=b:=by
  have h:(match e x y with | some a=>(eqFs e xs ys).map (a && ·) | none=>none)=some b:=h
  revert h
  rcases e x y with uu | c
  · exact noS
  · exact fun h=>by obtain ⟨d,hd,h⟩:=Option.map_eq_some_iff.mp h; exact ⟨c,d,rfl,hd,h⟩
theorem eqFs_spec (e:V->V->Option Bool):∀ (xs ys:List V) (b:Bool),xs.length=ys.length->eqFs e xs ys=some b ->
    ∃ f:Nat->Bool,(∀ j x y,xs[j]? = some x->ys[j]? = some y->e x y=some (f j))/\(List.range xs.length).all f=b
  | [],[],b,_,h=>⟨fun uu=>true,fun j x y h1 uu=>noS h1,Option.some.inj h⟩
  | x::xs,y::ys,b,hl,h=>by
    obtain ⟨c,d,hc,hd,rfl⟩:=eqFs_c h
    obtain ⟨f,f1,f2⟩:=eqFs_spec e xs ys d (Nat.succ.inj hl) hd
    refine ⟨fun j=>match j with | 0=>c | j+1=>f j,fun j u v h1 h2=>?_,?_⟩
    · rcases j with uu | j
      · obtain rfl:=Option.some.inj h1; obtain rfl:=Option.some.inj h2; exact hc
      · exact f1 j u v h1 h2
    · rw [List.length_cons,List.range_succ_eq_map,List.all_cons,List.all_map,<- f2]; rfl
theorem ofString_beq (x y:String):(Str.ofString x == Str.ofString y)=(x == y):=by
  by_cases h:x=y
  · subst h; simp
  · rw [beq_eq_false_iff_ne.mpr h,beq_eq_false_iff_ne.mpr fun e=>h (ofString_inj e)]
inductive EqV (n:Nat) (H:AH):V->V->Bool->Prop
  | none:EqV n H .none .none true
  | bool (b c:Bool):EqV n H (.bool b) (.bool c) (b == c)
  | int (i j:Int):EqV n H (.int i) (.int j) (i == j)
  | str (i j:String):EqV n H (.str i) (.str j) (i == j)
  | is (i:Int) (j:String):EqV n H (.int i) (.str j) false
  | si (i:String) (j:Int):EqV n H (.str i) (.int j) false
  | tup (xs ys:List V) (b:Bool) (hl:xs.length=ys.length) (h:eqFs (eqF n H) xs ys=some b):EqV n H (.tup xs) (.tup ys) b
  | refs (a c:Nat) (xs ys:List V) (b:Bool) (h1:H a=some (.list xs)) (h2:H c=some (.list ys)) (h:(if xs.length=ys.length then eqFs (eqF n H) xs ys else some false)=some b):EqV n H (.ref a) (.ref c) b
theorem eqV_of {n:Nat} {H:AH} {x y:V} {b:Bool} (h:eqF (n+1) H x y=some b):EqV n H x y b:=by
  rcases x with ⟨⟩ <;> try exact noS h
  all_goals rcases y with ⟨⟩ <;> try exact noS h
  · obtain rfl:=Option.some.inj h; exact .none
  · obtain rfl:=Option.some.inj h; exact .bool _ _
  · obtain rfl:=Option.some.inj h; exact .int _ _
  · obtain rfl:=Option.some.inj h; exact .is _ _
  · obtain rfl:=Option.some.inj h; exact .si _ _
  · obtain rfl:=Option.some.inj h; exact .str _ _
  · obtain ⟨h1,h2⟩:=Option.ite_none_right_eq_some.mp h; exact .tup _ _ _ h1 h2
  · obtain ⟨xs,h1,h⟩:=bind_e h
    obtain ⟨ys,h2,h⟩:=bind_e h
    exact .refs _ _ xs ys _ (listAt_e h1) (listAt_e h2) h
theorem eq_self_all {X:Addr->Prop} {h:Heap} {e:V->V->Option Bool} (ih:∀ {x y:V} {v:Value} {b:Bool},e x y=some b->RepV X h x v->RepV X h y v->b=true) :
    ∀ (xs ys:List V) (vs:List Value) (b:Bool),RepVs X h xs vs->RepVs X h ys vs->eqFs e xs ys=some b->b=true
  | [],_,_,_,_,_,e=>(Option.some.inj e).symm
  | x::xs,[],_,_,_,_,e=>(Option.some.inj e).symm
  | x::xs,y::ys,vs,b,r1,r2,e=>by
    obtain ⟨v,vs',rfl,q1,q2⟩:=r1
    obtain ⟨v2,vs2,e2,q3,q4⟩:=r2
    obtain ⟨rfl,rfl⟩:=List.cons.inj e2
    obtain ⟨c,d,hc,hd,rfl⟩:=eqFs_c e
    rw [ih hc q1 q3,eq_self_all ih xs ys vs' d q2 q4 hd]; rfl
theorem eq_self_rep {s:Shared} (R:Rep G H s):∀ (n:Nat) {x y:V} {v:Value} {b:Bool},eqF n H x y=some b->RepV G.X s.heap x v->RepV G.X s.heap y v->b=true
  | 0,_,_,_,_,e,_,_=>noS e
  | n+1,x,y,v,b,e,r1,r2=>by
    rcases eqV_of e with uu | uu | uu | uu | uu | uu | ⟨xs,ys,uu,uu,h⟩ | ⟨a,c,xs,ys,uu,h1,h2,h⟩
    · rfl
    · obtain rfl:=r1; obtain rfl:=Value.bool.inj r2; exact beq_self_eq_true _
    · obtain ⟨t,rfl⟩:=r1; obtain ⟨u,e'⟩:=r2; obtain ⟨rfl,uu⟩:=Value.int.inj e'; exact beq_self_eq_true _
    · obtain ⟨t,rfl⟩:=r1; obtain ⟨u,e'⟩:=r2; obtain rfl:=ofString_inj (Value.str.inj e').1; exact beq_self_eq_true _
    · obtain ⟨t,rfl⟩:=r1; obtain ⟨u,e'⟩:=r2; exact nomatch e'
    · obtain ⟨t,rfl⟩:=r1; obtain ⟨u,e'⟩:=r2; exact nomatch e'
    · obtain ⟨a,items,m,rfl,g1,uu,g2⟩:=r1
      obtain ⟨a',items',m',e',g3,uu,g4⟩:=r2
      obtain rfl:=Value.ref.inj e'
      have:=Option.some.inj (g1.symm.trans g3)
      obtain rfl:items=items':=(Data.seq.inj (congrArg Obj.data this)).1
      exact eq_self_all (eq_self_rep R n) _ _ _ _ g2 g4 h
    · obtain rfl:=r1
      obtain rfl:=Value.ref.inj r2
      obtain rfl:=AO.listI (Option.some.inj (h1.symm.trans h2))
      rw [if_pos rfl] at h
      obtain ⟨items,n',l1,l2⟩:=R.list h1
      exact eq_self_all (eq_self_rep R n) _ _ _ _ l2 l2 h
inductive EqAllR (A:Around) (s:Shared) (vs ws:Array Value) (b:Bool):Prop
  | mk (f:Nat->Bool) (z:vs.size=ws.size) (e:∀ j (h1:j<vs.size) (h2:j<ws.size),EqAt A s vs[j] ws[j] (f j)) (a:(List.range vs.size).all f=b)
theorem EqAll.of {n:Nat} {A:Around} {s:Shared} (R:Rep G H s) (hu:A.units+n<cLine)
    (ih:∀ (A:Around) (x y:V) (v w:Value) (b:Bool),A.units+n<cLine->eqF n H x y=some b->RepV G.X s.heap x v->RepV G.X s.heap y w->EqAt A s v w b)
    {xs ys:List V} {vs ws:Array Value} {b:Bool} (hl:xs.length=ys.length) (h:eqFs (eqF n H) xs ys=some b) (r1:RepVs G.X s.heap xs vs.toList) (r2:RepVs G.X s.heap ys ws.toList) :
    EqAllR A s vs ws b:=by
  obtain ⟨f,f1,f2⟩:=eqFs_spec _ xs ys b hl h
  have e1:vs.size=xs.length:=r1.length
  have e2:ws.size=ys.length:=r2.length
  refine ⟨f,e1.trans (hl.trans e2.symm),fun j h1 h2=>?_,e1.symm ▸ f2⟩
  have hx:=List.getElem?_eq_getElem (e1 ▸ h1)
  have hy:=List.getElem?_eq_getElem (e2 ▸ h2)
  obtain ⟨v,v1,v2⟩:=r1.get hx
  obtain ⟨w,w1,w2⟩:=r2.get hy
  rw [Array.getElem?_toList,Array.getElem?_eq_getElem h1] at v1
  rw [Array.getElem?_toList,Array.getElem?_eq_getElem h2] at w1
  obtain rfl:=Option.some.inj v1
  obtain rfl:=Option.some.inj w1
  exact ih A _ _ _ _ _ hu (f1 j _ _ hx hy) v2 w2
theorem tup_at {n:Nat} {A:Around} {s:Shared} (R:Rep G H s) (hu:A.units+(n+1)<cLine)
    (ih:∀ (A:Around) (x y:V) (v w:Value) (b:Bool),A.units+n<cLine->eqF n H x y=some b->RepV G.X s.heap x v->RepV G.X s.heap y w->EqAt A s v w b)
    {xs ys:List V} {a a':Addr} {items items':Array Value} {m m':Nat} {b:Bool} (hl:xs.length=ys.length) (h:eqFs (eqF n H) xs ys=some b)
    (g1:s.heap.get? a=some { cls:=.type "tuple",data:=.seq items m }) (g2:RepVs G.X s.heap xs items.toList) (g3:s.heap.get? a'=some { cls:=.type "tuple",data:=.seq items' m' }) (g4:RepVs G.X s.heap ys items'.toList) :
    RcAt A s (.ref a) (.ref a') b/\RcNeAt A s (.ref a) (.ref a') (!b):=by
  obtain ⟨f,f0,f1,f2⟩:=EqAll.of (A:=A.in1) R (show A.units+1+n<cLine by omega) ih hl h g2 g4
  have hu:A.units<cLine:=by omega
  have z:(((List.range (min items.size items'.size)).all f) && (items.size == items'.size))=b:=by rw [<- f0,Nat.min_self,f2,beq_self_eq_true,Bool.and_true]
  have h1:=RcAt.tuples (A:=A) (s:=s) (e:=f) ⟨_,g1,rfl,_,rfl⟩ ⟨_,g3,rfl,_,rfl⟩ hu f1
  have h2:=RcNeAt.tuples (A:=A) (s:=s) (e:=f) ⟨_,g1,rfl,_,rfl⟩ ⟨_,g3,rfl,_,rfl⟩ hu f1
  rw [z] at h1 h2
  exact ⟨h1,h2⟩
theorem list_rc {n:Nat} {A:Around} {s:Shared} (R:Rep G H s) (hu:A.units+(n+1)<cLine)
    (ih:∀ (A:Around) (x y:V) (v w:Value) (b:Bool),A.units+n<cLine->eqF n H x y=some b->RepV G.X s.heap x v->RepV G.X s.heap y w->EqAt A s v w b)
    {xs ys:List V} {a a':Addr} {b:Bool} (h1:H a=some (.list xs)) (h2:H a'=some (.list ys)) (h:(if xs.length=ys.length then eqFs (eqF n H) xs ys else some false)=some b):RcAt A s (.ref a) (.ref a') b:=by
  obtain ⟨items,m,g1,g2,g5⟩:=R.list' h1
  obtain ⟨items',m',g3,g4,g6⟩:=R.list' h2
  have hu1:A.units<cLine:=by omega
  by_cases hl:xs.length=ys.length
  · rw [if_pos hl] at h
    obtain ⟨f,f0,f1,f2⟩:=EqAll.of (A:=A.in1) R (show A.units+1+n<cLine by omega) ih hl h g2 g4
    have h2:=RcAt.lists (A:=A) (s:=s) (e:=f) ⟨_,g1,rfl,_,rfl⟩ ⟨_,g3,rfl,_,rfl⟩ f0 hu1 f1
    rwa [f2] at h2
  · rw [if_neg hl] at h
    obtain rfl:=Option.some.inj h
    exact RcAt.lists_lengths ⟨_,g1,rfl,_,rfl⟩ ⟨_,g3,rfl,_,rfl⟩ (bne_iff_ne.mpr fun e=>hl (g5.symm.trans (e.trans g6))) hu1
theorem eq_at {s:Shared} (R:Rep G H s):∀ (n:Nat) (A:Around) (x y:V) (v w:Value) (b:Bool),A.units+n<cLine->eqF n H x y=some b->RepV G.X s.heap x v->RepV G.X s.heap y w->EqAt A s v w b
  | 0,_,_,_,_,_,_,_,e,_,_=>noS e
  | n+1,A,x,y,v,w,b,hu,e,r1,r2=>by
    have e0:=e
    rcases eqV_of e with uu | uu | uu | uu | uu | uu | ⟨xs,ys,uu,hl,h⟩ | ⟨a,c,xs,ys,uu,h1,h2,h⟩
    · obtain rfl:=r1; obtain rfl:=r2; exact EqAt.same _
    · obtain rfl:=r1; obtain rfl:=r2; exact EqAt.bool_bool _ _
    · obtain ⟨t,rfl⟩:=r1; obtain ⟨u,rfl⟩:=r2; exact EqAt.int_int _ _ _ _
    · obtain ⟨t,rfl⟩:=r1; obtain ⟨u,rfl⟩:=r2; rw [<- ofString_beq]; exact EqAt.str_str _ _ _ _
    · obtain ⟨t,rfl⟩:=r1; obtain ⟨u,rfl⟩:=r2; exact EqAt.int_str _ _ _ _
    · obtain ⟨t,rfl⟩:=r1; obtain ⟨u,rfl⟩:=r2; exact EqAt.str_int _ _ _ _
    · have e1:=eq_self_rep R (n+1) e0 r1
      obtain ⟨a,items,m,rfl,g1,q1,g2⟩:=r1
      obtain ⟨a',items',m',rfl,g3,q3,g4⟩:=r2
      by_cases ha:a=a'
      · subst ha
        obtain rfl:=e1 ⟨a,items',m',rfl,g3,q3,g4⟩
        exact EqAt.same _
      · exact EqAt.of_refs ha (tup_at R hu (eq_at R n) hl h g1 g2 g3 g4).1
    · have e1:=eq_self_rep R (n+1) e0 r1
      obtain rfl:=r1; obtain rfl:=r2
      by_cases ha:a=c
      · subst ha
        obtain rfl:=e1 rfl
        exact EqAt.same _
      · exact EqAt.of_refs ha (list_rc R hu (eq_at R n) h1 h2 h)
noncomputable def EqW (prog:Program) (w:World) (A:Around) (s:Shared) (y x:Value) (b:Bool):Prop :=
  ∀ (E:Value->Shared->Prop) (Q:Bool->Shared->Prop),Q b s->wpAny (model prog w) A (eqBool y x) Q E s
open AutoSeq1 (wpAny_loadPart') in
open MeetsSeq MeetsSeq2 MeetsSeq3 in
theorem ne_loopW {prog:Program} {w:World} {l b:Addr} {xs ys:Array Value} {n m:Nat} (hsz:xs.size=ys.size) (e:Nat->Bool) (k:Nat) :
    ∀ (i:Nat) (A:Around) (R:Result->Shared->Prop) (s:Shared),xs.size - i=k->IsL s.heap l xs n->IsL s.heap b ys m ->
      (∀ j (h1:j<xs.size) (h2:j<ys.size),EqW prog w A.in1 s xs[j] ys[j] (e j))->R (.ok (.ret (.bool (!((List.range xs.size).drop i).all e)))) s ->
      wpAny (model prog w) A.in1 (Builtin.«list.__eq__.loop» ⟨[.ref l,.ref b,rawInt i,rawInt 3],[]⟩)
        (fun fin s'=>match fin with | .done f=>R (.ok f) s' | .again c'=>c'.quiet=true/\codeAny (model prog w) A c' R s') (fun e s'=>R (.error e) s') s:=by
  induction k with
  | zero=>
    intro i A R s hk hl hb he h
    obtain ⟨hp,g,d,tk,os⟩:=s
    wp_walk using wpAny_loadPart' hl,wpAny_loadPart' hb
    rw [show xs[((i:Nat):Int).toNat]? = none by simp; omega,show ys[((i:Nat):Int).toNat]? = none by simp; omega]
    wp_walk using wpAny_loadPart' hl,wpAny_loadPart' hb
    rw [show (List.range xs.size).drop i=[] by simp; omega] at h
    show R (.ok (.ret (.bool (xs.size != ys.size)))) _
    rw [hsz]
    simpa using h
  | succ k ih=>
    intro i A R s hk hl hb he h
    obtain ⟨hp,g,d,tk,os⟩:=s
    wp_walk using wpAny_loadPart' hl,wpAny_loadPart' hb
    have h1:i<xs.size:=by omega
    have h2:i<ys.size:=by omega
    rw [show (List.range xs.size).drop i=i::(List.range xs.size).drop (i+1) by simp [List.drop_eq_getElem_cons,h1],List.all_cons] at h
    rw [show xs[((i:Nat):Int).toNat]? = some xs[i] by simp [h1],show ys[((i:Nat):Int).toNat]? = some ys[i] by simp [h2]]
    refine wpAny_bind (he i h1 h2 _ _ ?_)
    cases hi:e i with
    | true=>
      rw [hi] at h
      wp_walk
      rw [show ((i:Int)+1)=((i+1:Nat):Int) by push_cast; rfl]
      refine ⟨plainId_quiet plain_eq_loop _,codeAny_builtin entry_eq_loop ?_⟩
      rw [Around.under_plainId plain_eq_loop _]
      exact ih (i+1) A R _ (by omega) hl hb he (by simpa using h)
    | false=>
      rw [hi] at h
      wp_walk using wpAny_loadPart' hl,wpAny_loadPart' hb
      rw [show xs[((i:Nat):Int).toNat]? = some xs[i] by simp [h1],show ys[((i:Nat):Int).toNat]? = some ys[i] by simp [h2]]
      wp_walk
      simpa using h
open AutoSeq1 (wpAny_loadPart') in
open MeetsSeq MeetsSeq2 MeetsSeq3 in
theorem ne_listW {prog:Program} {w:World} {A:Around} {E:Value->Shared->Prop} {s:Shared} {l b:Addr} {xs ys:Array Value} {n m:Nat} {e:Nat->Bool} {Q:Value->Shared->Prop}
    (hsz:xs.size=ys.size) (hl:IsL s.heap l xs n) (hb:IsL s.heap b ys m) (hu:A.units<cLine)
    (he:∀ j (h1:j<xs.size) (h2:j<ys.size),EqW prog w A.in1 s xs[j] ys[j] (e j)) (h:Q (.bool (!(List.range xs.size).all e)) s) :
    wpAny (model prog w) A (compareOp .NotEq (.ref l) (.ref b)) Q E s:=by
  show wpAny _ _ (richCompare .NotEq _ _) _ _ _
  have hT:s.TypeIs (.ref l) "list" := ⟨_,hl,rfl⟩
  have hT':s.TypeIs (.ref b) "list" := ⟨_,hb,rfl⟩
  refine wpAny_richCompare_same_room (op:=.NotEq) hT hT' F.slot_list_ne (wpAny_call (codeAny_call_builtin F.slot_list_ne.plain F.entry_list_ne
    (F.slot_list_ne.check _ _ _ _ _ _ _ _ hT (F.args_list_ne_2 _ _) ?_))) hu
  have f3:=AutoSeq1.sub_list_list
  have hne:¬ (xs.size != ys.size)=true:=by simp [hsz]
  obtain ⟨hp,g,d,tk,os⟩:=s
  wp_walk using wpAny_loadPart' hl,wpAny_loadPart' hb
  refine ⟨plainId_quiet plain_eq_loop _,codeAny_builtin entry_eq_loop ?_⟩
  rw [Around.under_plainId plain_eq_loop _]
  refine ne_loopW hsz e _ 0 A (wants (fun v s'=>v ≠ .notImplemented/\Q v s') E) _ rfl hl hb he ?_
  exact ⟨nofun,by simpa using h⟩
theorem Rep.notSys {s:Shared} (R:Rep G H s) {o:Obj} (hs:G.g₀.get? sysModules=some o) {a:Addr} {x:AO} (h:H a=some x):(a == sysModules)=false :=
  beq_eq_false_iff_ne.mpr fun e=>nomatch h.symm.trans ((congrArg H e).trans (R.gmut _ _ hs))
theorem valueAt_cons {K:Type} [DecidableEq K] (k:K) (v:Value) (r:List (K × Value)) (x:K):valueAt ((k,v)::r) x=if k=x then some v else valueAt r x:=by
  unfold valueAt
  by_cases h:k=x
  · subst h; simp
  · simp [h]
theorem valueAt_get {K:Type} [DecidableEq K]:∀ (r:List (K × Value)) (i:Nat) (k:K) (v:Value),(r.map (·.1)).Nodup->r[i]? = some (k,v)->valueAt r k=some v
  | [],i,k,v,_,h=>noS h
  | (k',v')::r,0,k,v,_,h=>by obtain ⟨rfl,rfl⟩:=Prod.mk.inj (Option.some.inj h); rw [valueAt_cons,if_pos rfl]
  | (k',v')::r,i+1,k,v,hn,h=>by
    have hn:=List.nodup_cons.mp hn
    have hne:¬ k'=k:=fun e=>hn.1 (e ▸ List.mem_map.mpr ⟨(k,v),List.mem_of_getElem? h,rfl⟩)
    rw [valueAt_cons,if_neg hne]
    exact valueAt_get r i k v hn.2 h
theorem hits_of {A:Around} {s:Shared} (kb:List (Str × Value)):∀ (ka:List (Str × Value)) (f:Nat->Bool),
    (∀ j k v,ka[j]? = some (k,v)->∃ y,valueAt kb k=some y/\EqAt A s v y (f j))->KeqHits A s kb ka ((List.range ka.length).all f)
  | [],f,_=>KeqHits.nil
  | (k,v)::r,f,h=>by
    obtain ⟨y,h1,h2⟩:=h 0 k v rfl
    rw [List.length_cons,List.range_succ_eq_map,List.all_cons,List.all_map]
    exact KeqHits.hit h1 h2 (hits_of kb r (fun j=>f (j+1)) fun j k v hj=>h (j+1) k v hj)
theorem map_get {α β:Type} {f:α->β} {l:List α} {j:Nat} {x:α} (h:l[j]? = some x):(l.map f)[j]? = some (f x):=by rw [List.getElem?_map,h]; rfl
theorem map_len {α β γ:Type} {f:α->γ} {g:β->γ} {l:List α} {r:List β} (h:l.map f=r.map g):l.length=r.length:=by
  have:=congrArg List.length h
  rwa [List.length_map,List.length_map] at this
theorem ds_hits {n:Nat} {A:Around} {s:Shared} (R:Rep G H s) (hu:A.units+n<cLine) {ks ls:List (String × V)} {c1 c2:List (Str × Value)} {b:Bool} (hk:ks.map (·.1)=ls.map (·.1)) (e:eqFs (eqF n H) (ks.map (·.2)) (ls.map (·.2))=some b)
    (k1:c1.map (·.1)=ks.map (fun p=>Str.ofString p.1)) (v1:RepVs G.X s.heap (ks.map (·.2)) (c1.map (·.2))) (k2:c2.map (·.1)=ls.map (fun p=>Str.ofString p.1)) (v2:RepVs G.X s.heap (ls.map (·.2)) (c2.map (·.2))) (hn:(c2.map (·.1)).Nodup):KeqHits A s c2 c1 b:=by
  have hkk:c1.map (·.1)=c2.map (·.1):=by
    rw [k1,k2]
    have:=congrArg (List.map Str.ofString) hk
    rwa [List.map_map,List.map_map] at this
  obtain ⟨f,e1,e2⟩:=eqFs_spec _ _ _ b (by rw [List.length_map,List.length_map]; exact map_len hk) e
  have l1:(ks.map (·.2)).length=c1.length:=(List.length_map _).trans (map_len k1).symm
  rw [<- e2,l1]
  refine hits_of _ _ _ fun j kk vv hj=>?_
  have a1:=map_get (f:=(·.1)) hj
  rw [hkk,List.getElem?_map,Option.map_eq_some_iff] at a1
  obtain ⟨⟨k',y⟩,hj2,rfl⟩:=a1
  refine ⟨y,valueAt_get c2 j _ _ hn hj2,?_⟩
  have q1:=map_get (f:=(·.2)) hj
  have q2:=map_get (f:=(·.2)) hj2
  obtain ⟨x,hx⟩:∃ x,(ks.map (·.2))[j]? = some x:=⟨_,List.getElem?_eq_getElem (l1 ▸ (List.getElem?_eq_some_iff.mp hj).1)⟩
  obtain ⟨y',hy⟩:∃ x,(ls.map (·.2))[j]? = some x:=⟨_,List.getElem?_eq_getElem (by rw [List.length_map,<- map_len k2]; exact (List.getElem?_eq_some_iff.mp hj2).1)⟩
  obtain ⟨z1,z2,z3⟩:=v1.get hx
  obtain ⟨z4,z5,z6⟩:=v2.get hy
  obtain rfl:=Option.some.inj (q1.symm.trans z2)
  obtain rfl:=Option.some.inj (q2.symm.trans z5)
  exact eq_at R n _ x y' _ _ _ hu (e1 j x y' hx hy) z3 z6
theorem eqE_at {o:Obj} (hs:G.g₀.get? sysModules=some o) {s:Shared} (R:Rep G H s) {n:Nat} {A:Around} {x y:V} {v w:Value} {b:Bool} (hu:A.units+n+2<cLine) (e:eqE n H x y=some b)
    (r1:RepV G.X s.heap x v) (r2:RepV G.X s.heap y w):EqW G.prog G.w A s v w b:=by
  unfold eqE at e
  rcases hq:(refs x y).bind fun p=>(dsAt H p.1).bind fun ks=>(dsAt H p.2).map fun ls=>(ks,ls) with uu | q
  · rw [hq] at e
    exact fun E Q q=>eq_at R n A x y v w b (by omega) e r1 r2 _ _ E Q q
  · rw [hq] at e
    obtain ⟨⟨a,a'⟩,hr,hq⟩:=bind_e hq
    obtain ⟨ks,h1,hq⟩:=bind_e hq
    obtain ⟨ls,h2,rfl⟩:=Option.map_eq_some_iff.mp hq
    obtain ⟨f1,h1⟩:=dsAt_e h1
    obtain ⟨f2,h2⟩:=dsAt_e h2
    obtain ⟨rfl,rfl⟩:=refs_e hr
    obtain ⟨hk,e2⟩:=Option.ite_none_right_eq_some.mp e
    obtain rfl:v = .ref a:=r1
    obtain rfl:w = .ref a':=r2
    obtain ⟨c1,d1,k1,v1⟩:=R.own _ _ h1
    obtain ⟨c2,d2,k2,v2⟩:=R.own _ _ h2
    have hn:(c2.map (·.1)).Nodup:=by obtain ⟨uu,uu,uu,uu,uu,uu,uu,uu,hn⟩:=d2; exact hn
    have hits:KeqHits A.in1 s c2 c1 b:=ds_hits R (show A.units+1+n<cLine by omega) hk e2 k1 v1 k2 v2 hn
    intro E Q q
    by_cases ha:a=a'
    · subst ha
      obtain ⟨rfl,rfl⟩:=AO.dsI (Option.some.inj (h1.symm.trans h2))
      obtain rfl:=eq_self_all (eq_self_rep R n) _ _ _ _ v1 v1 e2
      exact EqAt.same _ _ _ E Q q
    · unfold eqBool
      refine wpAny_holding ?_
      refine wpAny_ite_split (fun hab=>absurd (Value.ref.inj (eq_of_beq hab)) ha) (fun uu=>?_)
      refine wpAny_bind (keq_eq (R.notSys hs h1) (R.notSys hs h2) d1 d2 (by omega) (fun uu=>hits) (wpAny_truthy_bool ?_))
      rw [show (c1.length == c2.length)=true from beq_iff_eq.mpr ((map_len k1).trans ((map_len hk).trans (map_len k2).symm))]
      exact q
end
end Mine
end
section
open PySem PySem.W PyProof.Rows PySem.SeqAt
set_option maxRecDepth 100000
namespace Mine
variable {G:GC}
section
variable {fi:FI} {k:Nat} {ρ:Env} {H:AH}
inductive DgetR {K:Type} [DecidableEq K] (X:Addr->Prop) (h:Heap) (kvs:List (K × V)) (cvs:List (K × Value)) (x:K):Prop
  | some (v:V) (w:Value) (e:dget kvs x=some v) (f:valueAt cvs x=some w) (r:RepV X h v w)
  | none (e:dget kvs x=none) (f:valueAt cvs x=none)
theorem dget_rel {K:Type} [DecidableEq K] {X:Addr->Prop} {h:Heap}:∀ (kvs:List (K × V)) (cvs:List (K × Value)) (x:K),cvs.map (·.1)=kvs.map (·.1)->RepVs X h (kvs.map (·.2)) (cvs.map (·.2))->DgetR X h kvs cvs x
  | [],[],x,_,_=>.none rfl rfl
  | [],_::_,x,hk,_=>nomatch hk
  | (k,v)::kvs,[],x,hk,_=>nomatch hk
  | (k,v)::kvs,(k',w)::cvs,x,hk,hr=>by
    obtain ⟨rfl,hk2⟩:=List.cons.inj hk
    obtain ⟨y,r,e1,e2,e3⟩:=hr
    obtain ⟨rfl,rfl⟩:=List.cons.inj e1
    by_cases hx:k'=x
    · exact .some v w (if_pos hx) ((valueAt_cons _ _ _ _).trans (if_pos hx)) e2
    · rcases dget_rel kvs cvs x hk2 e3 with ⟨u,z,h1,h2,h3⟩ | ⟨h1,h2⟩
      · exact .some u z ((if_neg hx).trans h1) ((valueAt_cons _ _ _ _).trans ((if_neg hx).trans h2)) h3
      · exact .none ((if_neg hx).trans h1) ((valueAt_cons _ _ _ _).trans ((if_neg hx).trans h2))
theorem dget_valueAt {K:Type} [DecidableEq K] {X:Addr->Prop} {h:Heap} (kvs:List (K × V)) (cvs:List (K × Value)) (x:K) (hk:cvs.map (·.1)=kvs.map (·.1)) (hr:RepVs X h (kvs.map (·.2)) (cvs.map (·.2))) :
    (∀ v,dget kvs x=some v->∃ w,valueAt cvs x=some w/\RepV X h v w)/\(dget kvs x=none->valueAt cvs x=none):=by
  rcases dget_rel kvs cvs x hk hr with ⟨u,z,h1,h2,h3⟩ | ⟨h1,h2⟩
  · exact ⟨fun v e=>⟨z,h2,Option.some.inj (h1.symm.trans e) ▸ h3⟩,fun e=>noS (e.symm.trans h1)⟩
  · exact ⟨fun v e=>noS (h1.symm.trans e),fun uu=>h2⟩
noncomputable def strK (kvs:List (String × V)):List (Str × V):=kvs.map fun p=>(Str.ofString p.1,p.2)
theorem strK_1 (kvs:List (String × V)):(strK kvs).map (·.1)=kvs.map fun p=>Str.ofString p.1:=List.map_map
theorem strK_2 (kvs:List (String × V)):(strK kvs).map (·.2)=kvs.map (·.2):=List.map_map
theorem strK_get (x:String):∀ kvs:List (String × V),dget (strK kvs) (Str.ofString x)=dget kvs x
  | []=>rfl
  | (k,v)::r=>by
    show (if Str.ofString k=Str.ofString x then some v else dget (strK r) (Str.ofString x))=if k=x then some v else dget r x
    rw [strK_get x r]; simp only [ofString_iff]
theorem strK_set (x:String) (z:V):∀ kvs:List (String × V),strK (dset kvs x z)=dset (strK kvs) (Str.ofString x) z
  | []=>rfl
  | (k,v)::r=>by
    show strK (if k=x then (k,z)::r else (k,v)::dset r x z)=if Str.ofString k=Str.ofString x then (Str.ofString k,z)::strK r else (Str.ofString k,v)::dset (strK r) (Str.ofString x) z
    rw [<- strK_set x z r]; simp only [ofString_iff]
    split <;> rfl
theorem dget_str {X:Addr->Prop} {h:Heap} (kvs:List (String × V)) (cvs:List (Str × Value)) (x:String) (hk:cvs.map (·.1)=kvs.map (fun p=>Str.ofString p.1)) (hr:RepVs X h (kvs.map (·.2)) (cvs.map (·.2))) :
    (∀ v,dget kvs x=some v->∃ w,valueAt cvs (Str.ofString x)=some w/\RepV X h v w)/\(dget kvs x=none->valueAt cvs (Str.ofString x)=none):=by
  rw [<- strK_get]
  exact dget_valueAt (strK kvs) cvs (Str.ofString x) (by rw [strK_1]; exact hk) (by rw [strK_2]; exact hr)
theorem stored_eq {K:Type} [DecidableEq K] {k x:K} {y w:Value} {cvs:List (K × Value)} (h:¬ k=x):stored ((k,y)::cvs) x w=(k,y)::stored cvs x w:=by
  unfold stored
  simp only [List.any_cons,h,decide_false,Bool.false_or,List.map_cons,if_false]
  split <;> simp
theorem stored_hit {K:Type} [DecidableEq K] {k:K} {y w:Value} {cvs:List (K × Value)} (hn:k ∉ cvs.map (·.1)):stored ((k,y)::cvs) k w=(k,w)::cvs:=by
  have hno:∀ p ∈ cvs,¬ p.1=k:=fun p hp e=>hn (List.mem_map.mpr ⟨p,hp,e⟩)
  unfold stored
  simp only [List.any_cons,decide_true,Bool.true_or,if_true,List.map_cons,List.cons.injEq,true_and]
  conv=>rhs; rw [<- List.map_id cvs]
  exact List.map_congr_left fun p hp=>if_neg (hno p hp)
theorem dset_stored {K:Type} [DecidableEq K] {X:Addr->Prop} {h:Heap} {x:K} {v:V} {w:Value} (hv:RepV X h v w):∀ (kvs:List (K × V)) (cvs:List (K × Value)),(cvs.map (·.1)).Nodup->cvs.map (·.1)=kvs.map (·.1)->RepVs X h (kvs.map (·.2)) (cvs.map (·.2)) ->
    (stored cvs x w).map (·.1)=(dset kvs x v).map (·.1)/\RepVs X h ((dset kvs x v).map (·.2)) ((stored cvs x w).map (·.2))
  | [],[],_,_,_=>⟨rfl,w,[],rfl,hv,rfl⟩
  | [],_::_,_,hk,_=>nomatch hk
  | (k,u)::kvs,[],_,hk,_=>nomatch hk
  | (k,u)::kvs,(k',y)::cvs,hn,hk,hr=>by
    obtain ⟨rfl,hk2⟩:=List.cons.inj hk
    have hn:=List.nodup_cons.mp hn
    obtain ⟨z,r,e1,e2,e3⟩:=hr
    obtain ⟨rfl,rfl⟩:=List.cons.inj e1
    by_cases hx:k'=x
    · subst hx
      rw [stored_hit hn.1,show dset ((k',u)::kvs) k' v=(k',v)::kvs from if_pos rfl]
      exact ⟨congrArg (k' :: ·) hk2,w,_,rfl,hv,e3⟩
    · rw [stored_eq hx,show dset ((k',u)::kvs) x v=(k',u)::dset kvs x v from if_neg hx]
      obtain ⟨i1,i2⟩:=dset_stored hv kvs cvs hn.2 hk2 e3
      exact ⟨congrArg (k' :: ·) i1,y,_,rfl,e2,i2⟩
noncomputable def cmpP:COp->CmpOp
  | .eq=>.Eq | .ne=>.NotEq | .lt=>.Lt | .le=>.LtE | .gt=>.Gt | .ge=>.GtE | .is=>.Is | .isnot=>.IsNot | .isin=>.In | .notin=>.NotIn
noncomputable def cmpOk (op:COp) (op':CmpOp):Bool:=op' == cmpP op
noncomputable def eqVal (y x:Value):Bool:=match y,x with
  | .int i _,.int j _=>i == j
  | .str a _,.str b _=>a == b
  | _,_=>false
theorem eqP_at {X:Addr->Prop} {A:Around} {s:Shared} {x y:V} {v w:Value} {b:Bool} (h:eqP y x=some b) (ry:RepV X s.heap y w) (rx:RepV X s.heap x v):EqAt A s w v b/\eqVal w v=b:=by
  rcases y with ⟨⟩ <;> try exact noS h
  all_goals rcases x with ⟨⟩ <;> try exact noS h
  · obtain ⟨t,rfl⟩:=ry; obtain ⟨u,rfl⟩:=rx; obtain rfl:=Option.some.inj h; exact ⟨EqAt.int_int _ _ _ _,rfl⟩
  · obtain ⟨t,rfl⟩:=ry; obtain ⟨u,rfl⟩:=rx; obtain rfl:=Option.some.inj h
    refine ⟨?_,ofString_beq _ _⟩
    rw [<- ofString_beq]; exact EqAt.str_str _ _ _ _
theorem anyF_c {x y:V} {ys:List V} {b:Bool} (h:anyF x (y::ys)=some b):∃ c d,eqP y x=some c/\anyF x ys=some d/\(c || d)=b:=by
  have h:(match eqP y x with | some b=>(anyF x ys).map (b || ·) | none=>none)=some b:=h
  revert h
  rcases eqP y x with uu | c
  · exact noS
  · exact fun h=>by obtain ⟨d,hd,h⟩:=Option.map_eq_some_iff.mp h; exact ⟨c,d,rfl,hd,h⟩
theorem anyF_spec {X:Addr->Prop} {A:Around} {s:Shared} {x:V} {v:Value} (rx:RepV X s.heap x v):∀ (ys:List V) (ws:List Value) (b:Bool),anyF x ys=some b->RepVs X s.heap ys ws ->
    (∀ w ∈ ws,EqAt A s w v (eqVal w v))/\ws.any (eqVal · v)=b
  | [],ws,b,h,r=>by
    obtain rfl:ws=[]:=r
    exact ⟨List.forall_mem_nil _,Option.some.inj h⟩
  | y::ys,ws,b,h,r=>by
    obtain ⟨w,ws',rfl,r1,r2⟩:=r
    obtain ⟨c,d,hc,hd,rfl⟩:=anyF_c h
    obtain ⟨i1,i2⟩:=anyF_spec rx ys ws' d hd r2
    obtain ⟨e1,e2⟩:=eqP_at (A:=A) hc r1 rx
    exact ⟨List.forall_mem_cons.mpr ⟨e2.symm ▸ e1,i1⟩,by rw [List.any_cons,i2,e2]⟩
theorem indexF_spec {X:Addr->Prop} {A:Around} {s:Shared} {x:V} {v:Value} (rx:RepV X s.heap x v):∀ (ys:List V) (ws:List Value) (n:Nat),indexF x ys=some n->RepVs X s.heap ys ws ->
    ∃ hn:n<ws.length,eqVal ws[n] v=true /\ ∀ m (hm:m<ws.length),m<n->eqVal ws[m] v=false
  | [],ws,n,h,r=>noS h
  | y::ys,ws,n,h,r=>by
    obtain ⟨w,ws',rfl,r1,r2⟩:=r
    have h:(match eqP y x with | some true=>some 0 | some false=>(indexF x ys).map (· + 1) | none=>none)=some n:=h
    rcases hc:eqP y x with uu | uu | uu <;> rw [hc] at h
    · exact noS h
    · obtain ⟨d,hd,rfl⟩:=Option.map_eq_some_iff.mp h
      obtain ⟨i0,i1,i2⟩:=indexF_spec (A:=A) rx ys ws' d hd r2
      refine ⟨Nat.succ_lt_succ i0,i1,fun m hm hlt=>?_⟩
      rcases m with uu | m
      · exact (eqP_at (A:=A) hc r1 rx).2
      · exact i2 m (Nat.lt_of_succ_lt_succ hm) (Nat.lt_of_succ_lt_succ hlt)
    · obtain rfl:=Option.some.inj h
      exact ⟨Nat.zero_lt_succ _,(eqP_at (A:=A) hc r1 rx).2,fun m uu hm=>absurd hm (Nat.not_lt_zero _)⟩
end
end Mine
end
section
open PySem PySem.W PyProof.Rows PySem.SeqAt
set_option maxRecDepth 100000
namespace Mine
variable {G:GC}
section
variable {fi:FI} {k:Nat} {ρ:Env} {H:AH}
theorem Room.u100 {k:Nat} {A:Around} (h:Room k A):A.units+100<cLine:=by
  have:=h.units; omega
theorem PA.tk {H:AH} {s:Shared} {Q:V->AH->Prop} {b:V} {v:Value} (R:Rep G H s) (e:RepV G.X s.heap b v) (q:Q b H) (t:Nat):PV G H s Q v { s with toks:=t }:=PA.val R e q
theorem in_of {s:Shared} {A:Around} (R:Rep G H s) {o:Obj} (hs:G.g₀.get? sysModules=some o) {a:Addr} {fz:Bool} {kvs:List (Int × V)} (hd:H a=some (.di fz kvs)) {i:Int} {t:Tok} :
    (∀ {Q:V->AH->Prop},Q (.bool (dget kvs i).isSome) H->wpAny (model G.prog G.w) A (compareOp .In (.int i t) (.ref a)) (PV G H s Q) F0 s) /\
    (∀ {Q:V->AH->Prop},Q (.bool (!(dget kvs i).isSome)) H->wpAny (model G.prog G.w) A (compareOp .NotIn (.int i t) (.ref a)) (PV G H s Q) F0 s):=by
  obtain ⟨cvs,d1,d2,d3⟩:=R.own _ _ hd
  have e:(valueAt cvs i).isSome=(dget kvs i).isSome:=by
    rcases dget_rel kvs cvs i d2 d3 with ⟨u,z,h1,h2,h3⟩ | ⟨h1,h2⟩ <;> rw [h1,h2] <;> rfl
  rw [<- e]
  exact ⟨fun q=>wpAny_in_of (knd:=intKind G.prog G.w) (k:=i) (intKind_is _ _ _ _) (R.notSys hs hd) d1.mapOf (PA.val R rBool q),fun q=>wpAny_notIn_of (knd:=intKind G.prog G.w) (k:=i) (intKind_is _ _ _ _) (R.notSys hs hd) d1.mapOf (PA.val R rBool q)⟩
theorem in_sound {s:Shared} {A:Around} (Rm:Room k A) (R:Rep G H s) {o:Obj} (hs:G.g₀.get? sysModules=some o) {x y:V} {v w:Value} {b:Bool} (rx:RepV G.X s.heap x v) (ry:RepV G.X s.heap y w) (h:inF x y H=some b) :
    (∀ {Q:V->AH->Prop},Q (.bool b) H->wpAny (model G.prog G.w) A (compareOp .In v w) (PV G H s Q) F0 s) /\
    (∀ {Q:V->AH->Prop},Q (.bool (!b)) H->wpAny (model G.prog G.w) A (compareOp .NotIn v w) (PV G H s Q) F0 s):=by
  rcases y with ⟨⟩ <;> try exact noS h
  · obtain ⟨a,items,n,rfl,g1,uu,g2⟩:=ry
    obtain ⟨i1,i2⟩:=anyF_spec (A:=A.in1) rx _ _ b h g2
    rw [<- i2,Array.any_toList]
    exact ⟨fun q=>in_tupleAt (eqVal · v) ⟨_,g1,rfl,_,rfl⟩ (fun y hy=>i1 y (Array.mem_toList_iff.mpr hy)) (PA.same R rBool q),fun q=>notIn_tupleAt (eqVal · v) ⟨_,g1,rfl,_,rfl⟩ (fun y hy=>i1 y (Array.mem_toList_iff.mpr hy)) (PA.same R rBool q)⟩
  · rename_i a
    obtain rfl:=ry
    have h:inO x (H a)=some b:=h
    rcases hH:H a with uu | ⟨⟨⟩⟩ <;> rw [hH] at h <;> try exact noS h
    · obtain ⟨items,n,g1,g2⟩:=R.list hH
      obtain ⟨i1,i2⟩:=anyF_spec (A:=A.in1) rx _ _ b h g2
      rw [<- i2,Array.any_toList]
      exact ⟨fun q=>in_listAt (eqVal · v) g1.isList (fun y hy=>i1 y (Array.mem_toList_iff.mpr hy)) (PA.same R rBool q),fun q=>notIn_listAt (eqVal · v) g1.isList (fun y hy=>i1 y (Array.mem_toList_iff.mpr hy)) (PA.same R rBool q)⟩
    · rcases x with ⟨⟩ <;> try exact noS h
      obtain ⟨t,rfl⟩:=rx
      obtain rfl:=Option.some.inj h
      exact in_of R hs hH
theorem rc_at {s:Shared} {A:Around} (R:Rep G H s) {n:Nat} {x y:V} {v w:Value} {b:Bool} (hu:A.units+(n+1)<cLine) (e:eqF (n+1) H x y=some b) (r1:RepV G.X s.heap x v) (r2:RepV G.X s.heap y w):RcAt A s v w b:=by
  rcases eqV_of e with uu | uu | uu | uu | uu | uu | ⟨xs,ys,uu,hl,h⟩ | ⟨a,c,xs,ys,uu,h1,h2,h⟩
  · obtain rfl:=r1; obtain rfl:=r2; exact RcAt.none_none
  · obtain rfl:=r1; obtain rfl:=r2; exact RcAt.bool_bool _ _
  · obtain ⟨t,rfl⟩:=r1; obtain ⟨u,rfl⟩:=r2; exact RcAt.int_int _ _ _ _
  · obtain ⟨t,rfl⟩:=r1; obtain ⟨u,rfl⟩:=r2; rw [<- ofString_beq]; exact RcAt.str_str _ _ _ _
  · obtain ⟨t,rfl⟩:=r1; obtain ⟨u,rfl⟩:=r2; exact RcAt.int_str _ _ _ _
  · obtain ⟨t,rfl⟩:=r1; obtain ⟨u,rfl⟩:=r2; exact RcAt.str_int _ _ _ _
  · obtain ⟨a,items,m,rfl,g1,q1,g2⟩:=r1
    obtain ⟨a',items',m',rfl,g3,q3,g4⟩:=r2
    exact (tup_at R hu (eq_at R n) hl h g1 g2 g3 g4).1
  · obtain rfl:=r1; obtain rfl:=r2; exact list_rc R hu (eq_at R n) h1 h2 h
theorem rcne_at {s:Shared} {A:Around} (R:Rep G H s) {n:Nat} {x y:V} {v w:Value} {b:Bool} (hu:A.units+(n+1)<cLine) (e:eqF (n+1) H x y=some b) (r1:RepV G.X s.heap x v) (r2:RepV G.X s.heap y w)
    (hx:refs x y=none):RcNeAt A s v w (!b):=by
  rcases eqV_of e with uu | uu | uu | uu | uu | uu | ⟨xs,ys,uu,hl,h⟩ | ⟨a,c,xs,ys,uu,h1,h2,h⟩
  · obtain rfl:=r1; obtain rfl:=r2; exact RcNeAt.none_none
  · obtain rfl:=r1; obtain rfl:=r2; exact RcNeAt.bool_bool _ _
  · obtain ⟨t,rfl⟩:=r1; obtain ⟨u,rfl⟩:=r2; exact RcNeAt.int_int _ _ _ _
  · obtain ⟨t,rfl⟩:=r1; obtain ⟨u,rfl⟩:=r2; rw [<- ofString_beq]; exact RcNeAt.str_str _ _ _ _
  · obtain ⟨t,rfl⟩:=r1; obtain ⟨u,rfl⟩:=r2; exact RcNeAt.int_str _ _ _ _
  · obtain ⟨t,rfl⟩:=r1; obtain ⟨u,rfl⟩:=r2; exact RcNeAt.str_int _ _ _ _
  · obtain ⟨a,items,m,rfl,g1,q1,g2⟩:=r1
    obtain ⟨a',items',m',rfl,g3,q3,g4⟩:=r2
    exact (tup_at R hu (eq_at R n) hl h g1 g2 g3 g4).2
  · exact nomatch hx
theorem ne_at {s:Shared} {A:Around} (R:Rep G H s) {o:Obj} (hs:G.g₀.get? sysModules=some o) {x y:V} {v w:Value} {b:Bool} (hu:A.units+100<cLine) (e:neF x y H=some b) (r1:RepV G.X s.heap x v) (r2:RepV G.X s.heap y w)
    {Q:Value->Shared->Prop} {E:Value->Shared->Prop} (q:Q (.bool b) s):wpAny (model G.prog G.w) A (compareOp .NotEq v w) Q E s:=by
  unfold neF at e
  rcases hr:refs x y with uu | ⟨a,a'⟩ <;> rw [hr] at e
  · obtain ⟨c,hc,rfl⟩:=Option.map_eq_some_iff.mp e
    exact rcne_at (n:=5) R (by omega) hc r1 r2 hr _ _ _ _ q
  · obtain ⟨rfl,rfl⟩:=refs_e hr
    obtain rfl:=r1; obtain rfl:=r2
    obtain ⟨xs,h1,e⟩:=bind_e e
    obtain ⟨ys,h2,e⟩:=bind_e e
    obtain ⟨items,m,g1,g2,z1⟩:=R.list' (listAt_e h1)
    obtain ⟨items',m',g3,g4,z2⟩:=R.list' (listAt_e h2)
    unfold neL at e
    by_cases hl:xs.length=ys.length
    · rw [if_pos hl] at e
      obtain ⟨c,hc,rfl⟩:=Option.map_eq_some_iff.mp e
      obtain ⟨f,f1,f2⟩:=eqFs_spec _ _ _ c hl hc
      refine ne_listW (e:=f) (z1.trans (hl.trans z2.symm)) g1 g3 (by omega) (fun j j1 j2=>?_) (by rw [z1,f2]; exact q)
      have hx:=List.getElem?_eq_getElem (z1 ▸ j1)
      have hy:=List.getElem?_eq_getElem (z2 ▸ j2)
      obtain ⟨v,v1,v2⟩:=g2.get hx
      obtain ⟨w,w1,w2⟩:=g4.get hy
      rw [Array.getElem?_toList,Array.getElem?_eq_getElem j1] at v1
      rw [Array.getElem?_toList,Array.getElem?_eq_getElem j2] at w1
      obtain rfl:=Option.some.inj v1
      obtain rfl:=Option.some.inj w1
      exact eqE_at hs R (show A.units+1+5+2<cLine by omega) (f1 j _ _ hx hy) v2 w2
    · rw [if_neg hl] at e
      obtain rfl:=Option.some.inj e
      exact RcNeAt.lists_lengths g1.isList g3.isList (bne_iff_ne.mpr fun e=>hl (z1.symm.trans (e.trans z2))) (by omega) _ _ _ _ q
theorem noneV {X:Addr->Prop} {h:Heap} {x:V} {v:Value} (rx:RepV X h x v):isNoneF x=(v == .none):=by
  rcases x with ⟨⟩
  · obtain rfl:=rx; rfl
  · obtain rfl:=rx; rfl
  · obtain ⟨t,rfl⟩:=rx; rfl
  · obtain ⟨t,rfl⟩:=rx; rfl
  · obtain ⟨a,b,c,rfl,uu⟩:=rx; rfl
  · obtain rfl:=rx; rfl
  · obtain ⟨a,b,c,d,rfl,uu⟩:=rx; rfl
  · exact rx.elim
theorem ord_sound {s:Shared} {A:Around} {op:COp} {x y:V} {v w:Value} {b:Bool} (ho:op = .lt \/ op = .le \/ op = .gt \/ op = .ge) (rx:RepV G.X s.heap x v) (ry:RepV G.X s.heap y w) (h:ordF op x y=some b)
    {Q:Value->Shared->Prop} {E:Value->Shared->Prop} (q:Q (.bool b) s):wpAny (model G.prog G.w) A (compareOp (cmpP op) v w) Q E s:=by
  rcases x with ⟨⟩ <;> try exact noS h
  rcases y with ⟨⟩ <;> try exact noS h
  obtain ⟨t,rfl⟩:=rx; obtain ⟨u,rfl⟩:=ry; obtain rfl:=Option.some.inj h
  rcases ho with rfl | rfl | rfl | rfl
  · exact PyProof.Rows.lt_int q
  · exact PyProof.Rows.le_int q
  · exact PyProof.Rows.gt_int q
  · exact PyProof.Rows.ge_int q
theorem cmp_sound {s:Shared} {A:Around} (Rm:Room k A) (R:Rep G H s) {o:Obj} (hs:G.g₀.get? sysModules=some o) {op:COp} {op':CmpOp} (ho:cmpOk op op'=true) {x y:V} {v w:Value} {b:Bool} (rx:RepV G.X s.heap x v) (ry:RepV G.X s.heap y w) (h:cmpF op x y H=some b)
    {Q:V->AH->Prop} (q:Q (.bool b) H):wpAny (model G.prog G.w) A (compareOp op' v w) (PV G H s Q) F0 s:=by
  have hu:=Rm.u100
  have q':PV G H s Q (.bool b) s:=PA.same R rBool q
  obtain rfl:=beq_iff_eq.mp ho
  rcases op with ⟨⟩
  · exact rc_at (n:=5) R (by omega) h rx ry _ _ _ _ q'
  · exact ne_at R hs hu h rx ry q'
  · exact ord_sound (.inl rfl) rx ry h q'
  · exact ord_sound (.inr (.inl rfl)) rx ry h q'
  · exact ord_sound (.inr (.inr (.inl rfl))) rx ry h q'
  · exact ord_sound (.inr (.inr (.inr rfl))) rx ry h q'
  · rcases y with ⟨⟩ <;> try exact noS h
    obtain rfl:=ry
    obtain rfl:=Option.some.inj h
    exact is_none_gen (noneV rx ▸ q')
  · rcases y with ⟨⟩ <;> try exact noS h
    obtain rfl:=ry
    obtain rfl:=Option.some.inj h
    exact isnot_none_gen (noneV rx ▸ q')
  · exact (in_sound Rm R hs rx ry h).1 q
  · obtain ⟨c,hc,rfl⟩:=Option.map_eq_some_iff.mp h
    exact (in_sound Rm R hs rx ry hc).2 q
end
end Mine
end
section
open PySem PySem.W PyProof.Rows PySem.SeqAt
set_option maxRecDepth 100000
namespace Mine
variable {G:GC}
section
variable {fi:FI} {k:Nat} {ρ:Env} {H:AH}
noncomputable abbrev PB (G:GC) (H:AH) (s:Shared) (Q:Bool->AH->Prop):Bool->Shared->Prop:=PA G (fun uu b v=>b=v) H s Q
theorem PB.mk {s:Shared} (R:Rep G H s) {b:Bool} {Q:Bool->AH->Prop} (q:Q b H) (t:Nat):PB G H s Q b { s with toks:=t }:=⟨b,H,StepX.tok t,R.tok t,rfl,q⟩
theorem fitN {n k:Nat} (h:n=k) (h2:k<=100000):(n:Int)<2 ^ 63:=Int.lt_of_le_of_lt (Int.ofNat_le.mpr (h ▸ h2)) (by decide)
theorem truth_sound {s:Shared} {A:Around} (R:Rep G H s) {x:V} {v:Value} {b:Bool} (rx:RepV G.X s.heap x v) (h:truthF x H=some b) {Q:Bool->AH->Prop} (q:Q b H) :
    wpAny (model G.prog G.w) A (truthy v) (PB G H s Q) F0 s:=by
  rcases x with ⟨⟩ <;> try exact noS h
  · obtain rfl:=Option.some.inj h; obtain rfl:=rx; exact wpAny_pure (PB.mk R q s.toks)
  · obtain rfl:=Option.some.inj h; obtain rfl:=rx; exact wpAny_truthy_bool (PB.mk R q s.toks)
  · obtain rfl:=Option.some.inj h; obtain ⟨t,rfl⟩:=rx; exact PyProof.Rows.truthy_int (PB.mk R q s.toks)
  · obtain rfl:=rx
    obtain ⟨xs,hx,h⟩:=bind_e h
    obtain ⟨hlen,rfl⟩:=ite_e h
    obtain ⟨items,n,l1,l2,l3⟩:=R.list' (listAt_e hx)
    refine wpAny_truthy_list l1.isList (fitN l3 hlen) ?_
    have e:items.isEmpty=xs.isEmpty:=by
      show decide (items.size=0)=_
      rw [l3]; rcases xs with uu | uu <;> rfl
    rw [e]
    exact PB.mk R q _
theorem seqIndex_pos {i:Int} {n:Nat} (h:0<=i) (h2:i.toNat<n):seqIndex? i n=some i.toNat:=by
  have e:¬ i<0:=by omega
  have e2:i<(n:Int):=by omega
  simp [seqIndex?,e,e2,h]
theorem seqIndex_neg {i:Int} {n:Nat} (h:i<0) (h0:0<=i+n):seqIndex? i n=some (i+n).toNat:=by
  have e2:i+(n:Int)<(n:Int):=by omega
  simp [seqIndex?,h,h0]; exact e2
inductive IdxR (X:Addr->Prop) (h:Heap) (ws:Array Value) (i:Int) (v:V):Prop
  | mk (lo:-(100000:Int)<i) (hi:i<100000) (j:Nat) (w:Value) (e:seqIndex? i ws.size=some j) (g:ws[j]? = some w) (r:RepV X h v w) (p:0<=i->j=i.toNat) (n:i<0->0<=i+ws.size/\j=(i+ws.size).toNat)
inductive IdxV (xs:List V) (i:Int) (v:V):Prop
  | pos (h:0<=i) (hi:i<100000) (e:xs[i.toNat]? = some v)
  | neg (h:i<0) (lo:-100000<i) (h0:0<=i+xs.length) (e:xs[(i+xs.length).toNat]? = some v)
theorem idxV_of {xs:List V} {i:Int} {v:V} (e:idxF xs i=some v):IdxV xs i v:=by
  unfold idxF at e
  by_cases h:0<=i/\i<100000
  · rw [if_pos h] at e; exact .pos h.1 h.2 e
  · rw [if_neg h] at e
    obtain ⟨h,e⟩:=Option.ite_none_right_eq_some.mp e
    exact .neg h.2.1 h.1 h.2.2 e
theorem idx_of {X:Addr->Prop} {h:Heap} {xs:List V} {ws:Array Value} (r:RepVs X h xs ws.toList) {i:Int} {v:V} (e:idxF xs i=some v):IdxR X h ws i v:=by
  have hl:ws.size=xs.length:=r.length
  rcases idxV_of e with ⟨h0,h1,e⟩ | ⟨h0,h1,h2,e⟩
  · obtain ⟨w,w1,w2⟩:=r.get e
    rw [Array.getElem?_toList] at w1
    exact ⟨Int.lt_of_lt_of_le (by decide) h0,h1,i.toNat,w,seqIndex_pos h0 (Array.getElem?_eq_some_iff.mp w1).1,w1,w2,fun uu=>rfl,fun h=>absurd h (Int.not_lt.mpr h0)⟩
  · obtain ⟨w,w1,w2⟩:=r.get e
    rw [Array.getElem?_toList] at w1
    rw [<- hl] at w1 h2
    exact ⟨h1,Int.lt_trans h0 (by decide),(i+ws.size).toNat,w,seqIndex_neg h0 h2,w1,w2,fun h=>absurd h0 (Int.not_lt.mpr h),fun uu=>⟨h2,rfl⟩⟩
theorem cps_ofString (x:String):(Str.ofString x).cps.toList=x.toList.map Char.toNat:=by
  unfold Str.ofString; simp only [cpsOfBytes_string]
theorem ofString_list (l:List Char):Str.ofString (String.ofList l)=⟨(l.map Char.toNat).toArray⟩:=by
  have:=cps_ofString (String.ofList l)
  rw [String.toList_ofList] at this
  generalize Str.ofString (String.ofList l)=z at this
  obtain ⟨c⟩:=z
  rw [<- this]
theorem fits {i:Int} (h:-(100000:Int)<i) (h2:i<100000):-(2 ^ 63:Int)<=i/\i<2 ^ 63:=⟨Int.le_trans (by decide) (Int.le_of_lt h),Int.lt_trans h2 (by decide)⟩
theorem str_char {X:Addr->Prop} {h:Heap} {x:String} {j:Nat} {r:V} {t:Tok} (hj:(x.toList.map fun c=>V.str (String.ofList [c]))[j]? = some r):∃ c,(Str.ofString x).cps[j]? = some c/\RepV X h r (.str ⟨#[c]⟩ t)/\j<(Str.ofString x).length:=by
  rw [List.getElem?_map] at hj
  obtain ⟨c,hc,rfl⟩:=Option.map_eq_some_iff.mp hj
  have e:(Str.ofString x).cps[j]? = some c.toNat:=by rw [<- Array.getElem?_toList,cps_ofString,List.getElem?_map,hc]; rfl
  exact ⟨c.toNat,e,⟨t,by rw [ofString_list]; rfl⟩,(Array.getElem?_eq_some_iff.mp e).1⟩
theorem str_len (x:String):(x.toList.map fun c=>V.str (String.ofList [c])).length=(Str.ofString x).length:=by
  rw [List.length_map]
  show _=(Str.ofString x).cps.size
  rw [<- Array.length_toList,cps_ofString,List.length_map]
theorem sub_sound {s:Shared} {A:Around} (R:Rep G H s) {x y r:V} {v w:Value} (rx:RepV G.X s.heap x v) (ry:RepV G.X s.heap y w) (h:subF x y H=some r) {Q:V->AH->Prop} (q:Q r H) :
    SubscriptOn (model G.prog G.w) A v w (PV G H s Q) F0 s:=by
  rcases x with ⟨⟩ <;> try exact noS h
  · rcases y with ⟨⟩ <;> try exact noS h
    rename_i x i
    obtain ⟨t,rfl⟩:=rx; obtain ⟨u,rfl⟩:=ry
    have fin:∀ (c:Nat) (j:Nat),-(100000:Int)<i->i<100000->seqIndex? i (Str.ofString x).length=some j->(Str.ofString x).cps[j]? = some c->RepV G.X s.heap r (.str ⟨#[c]⟩ s.toks)->SubscriptOn (model G.prog G.w) A (.str (Str.ofString x) t) (.int i u) (PV G H s Q) F0 s:=fun c j h1 h2 e g rr=>
      ⟨"str",_,PyProof.Rows.slot_str_getitem.lookup,typeIs_str _ _ _,PyProof.Rows.getItem_str (by rw [decide_eq_false (Int.not_lt.mpr (fits h1 h2).1),decide_eq_false (Int.not_le.mpr (fits h1 h2).2)]; rfl) (by rw [e]; exact g) (PA.val R rr q)⟩
    rcases idxV_of h with ⟨h0,h1,e⟩ | ⟨h0,h1,h2,e⟩
    · obtain ⟨c,c1,c2,c3⟩:=str_char e
      exact fin c _ (Int.lt_of_lt_of_le (by decide) h0) h1 (seqIndex_pos h0 c3) c1 c2
    · rw [str_len] at e h2
      obtain ⟨c,c1,c2,c3⟩:=str_char e
      exact fin c _ h1 (Int.lt_trans h0 (by decide)) (seqIndex_neg h0 h2) c1 c2
  · rcases y with ⟨⟩ <;> try exact noS h
    obtain ⟨a,items,n,rfl,g1,uu,g2⟩:=rx
    obtain ⟨t,rfl⟩:=ry
    obtain ⟨h1,h2,j,z,h3,h4,h5,uu,uu⟩:=idx_of g2 h
    have hT:IsTup s.heap a items:=⟨_,g1,rfl,_,rfl⟩
    exact ⟨"tuple",_,F.slot_tuple_getitem.lookup,hT.typeIs,getItem_tuple hT (fits h1 h2).1 (fits h1 h2).2 h3 h4 (PA.same R h5 q)⟩
  · rename_i a
    obtain rfl:=rx
    rcases y with ⟨⟩ <;> try exact noS h
    · rename_i i
      obtain ⟨t,rfl⟩:=ry
      have h:subO i (H a)=some r:=h
      rcases hH:H a with uu | ⟨⟨⟩⟩ <;> rw [hH] at h <;> try exact noS h
      · obtain ⟨items,n,l1,l2⟩:=R.list hH
        obtain ⟨h1,h2,j,z,h3,h4,h5,h6,h7⟩:=idx_of l2 h
        refine ⟨"list",_,slot_list_getitem.lookup,l1.isList.typeIs,?_⟩
        rcases Int.lt_or_le i 0 with hneg | hpos
        · obtain ⟨h8,h9⟩:=h7 hneg
          exact wpAny_getItem_list_neg l1.isList hneg (Int.neg_le_of_neg_le (by omega)) (fits h1 h2).1 (h9 ▸ h4) (PA.same R h5 q)
        · exact wpAny_getItem_list l1.isList hpos (fits h1 h2).2 (h6 hpos ▸ h4) (PA.same R h5 q)
      · obtain ⟨cvs,d1,d2,d3⟩:=R.own _ _ hH
        obtain ⟨z,z1,z2⟩:=(dget_valueAt _ cvs i d2 d3).1 _ h
        exact ⟨"dict",_,slot_dict_getitem.lookup,d1.typeIs,wpAny_getItem_of (knd:=intKind G.prog G.w) (k:=i) (intKind_is _ _ _ _) d1.mapOf z1 (PA.val R z2 q)⟩
    · rename_i x
      obtain ⟨t,rfl⟩:=ry
      obtain ⟨kvs,hd,h⟩:=bind_e h
      obtain ⟨fz,hd⟩:=dsAt_e hd
      obtain ⟨cvs,d1,d2,d3⟩:=R.own _ _ hd
      obtain ⟨z,z1,z2⟩:=(dget_str kvs cvs x d2 d3).1 _ h
      exact ⟨"dict",_,slot_dict_getitem.lookup,d1.typeIs,wpAny_getItem_of (knd:=PySem.strKind G.prog G.w) (k:=Str.ofString x) (strKind_is _ _ _ _) d1.mapOf z1 (PA.val R z2 q)⟩
end
end Mine
end
section
open PySem PySem.W PyProof.Rows PySem.SeqAt
set_option maxRecDepth 100000
namespace Mine
variable {G:GC}
section
variable {fi:FI} {k:Nat} {ρ:Env} {H:AH}
noncomputable abbrev PU (G:GC) (H:AH) (s:Shared) (Q:AH->Prop):Unit->Shared->Prop:=PA G (fun _ (_:Unit) _=>True) H s (fun uu H'=>Q H')
theorem Rep.immU {s:Shared} (R:Rep G H s) {a:Addr} {x:AO} (h:H a=some x) {h':Heap} (k:∀ b o,b ≠ a->s.heap.get? b=some o->h'.get? b=some o):Imm G.X s.heap h' :=
  fun b o e i uu=>k b o (fun hb=>nomatch (R.notImm e i).symm.trans ((congrArg H hb).trans h)) e
theorem PU.upd {s:Shared} {Q:AH->Prop} (R:Rep G H s) {a:Addr} {x o':AO} (hx:H a=some x) (ho:x.open=true) {h':Heap} (t:Nat) (k:∀ b o,b ≠ a->s.heap.get? b=some o->h'.get? b=some o)
    (e:RepO G h' a o') (q:Q (H.set a o')) {u:Unit}:PU G H s Q u { s with heap:=h',toks:=t } :=
  ⟨(),_,StepX.upd t ⟨x,hx,ho⟩ k e,R.upd t ⟨x,hx,ho⟩ k e,trivial,q⟩
theorem PV.upd {s:Shared} {Q:V->AH->Prop} (R:Rep G H s) {a:Addr} {x o':AO} (hx:H a=some x) (ho:x.open=true) {h':Heap} (t:Nat) (k:∀ b o,b ≠ a->s.heap.get? b=some o->h'.get? b=some o)
    (e:RepO G h' a o') {r:V} {v:Value} (er:RepV G.X s.heap r v) (q:Q r (H.set a o')):PV G H s Q v { s with heap:=h',toks:=t } :=
  ⟨r,_,StepX.upd t ⟨x,hx,ho⟩ k e,R.upd t ⟨x,hx,ho⟩ k e,er.mono (R.immU hx k),q⟩
theorem setItem_at {A:Around} {E:Value->Shared->Prop} {s:Shared} {prog:Program} {w:World} {l:Addr} {items:Array Value} {n:Nat} {k:Int} {t:Tok} {v:Value} {Q:Unit->Shared->Prop} (hl:IsL s.heap l items n)
    (h0:0<=k) (hfit:k<2 ^ 63) (hn:k<items.size) (hQ:Q () { s with heap:=s.heap.update l (Obj.mapSeq (·.setIfInBounds k.toNat v)) }) :
    wpAny (model prog w) A (setItem (.ref l) (.int k t) v) Q E s:=by
  have hT:s.TypeIs (.ref l) "list" := ⟨_,hl,rfl⟩
  unfold setItem
  try with_reducible refine wpAny_holding ?_
  first | refine wpAny_bind (wpAny_pure ?_) | skip
  refine wpAny_bind (wpAny_sequenceKey hT (by decide) ?_)
  refine wpAny_bind (wpAny_callSpecial?_slot (name:=Str.ofString "__setitem__") hT slot_list_setitem
    (wpAny_call_entry slot_list_setitem hT entry_list_setitem ?_ (args_list_setitem _ _ _)))
  show wpAny _ _ (Builtin.List.listSubscript? (.int k t) >>= _) _ _ s
  refine wpAny_bind (wpAny_listSubscript_int (fitsIndex_of h0 hfit) ?_)
  clear hfit
  obtain ⟨j,rfl⟩:=Int.eq_ofNat_of_zero_le h0
  have hj:j<items.size:=by omega
  show wpAny _ _ ((seqItemAt l j >>= fun r=>pure (r.map (j,·))) >>= _) _ _ s
  refine wpAny_bind (wpAny_bind (wpAny_seqItemAt hl rfl (wpAny_pure ?_)))
  rw [show items[j]? = some items[j] from Array.getElem?_eq_getElem hj]
  show wpAny _ _ (setSeqItemAt l j v >>= _) _ _ s
  refine wpAny_bind (wpAny_setSeqItemAt hl rfl ?_)
  exact wpAny_bind (wpAny_pure (wpAny_pure ⟨.none,rfl,wpAny_pure hQ⟩))
theorem DictOf.other {prog:Program} {w:World} {h:Heap} {a:Addr} (d:h.DictOf (intKind prog w) a []):h.DictOf (PySem.strKind prog w) a []:=by
  obtain ⟨o,es,ep,e1,e2,e3,e4,e5,e6⟩:=d
  obtain rfl:es = #[]:=Array.toList_eq_nil_iff.mp (List.length_eq_zero_iff.mp e5.length)
  exact ⟨o,#[],ep,e1,e2,e3,fun e he=>by simp at he,Pairs.nil,List.nodup_nil⟩
theorem storeI_sound {s:Shared} {A:Around} (R:Rep G H s) {a:Addr} {i:Int} {t:Tok} {z:V} {u:Value} (rz:RepV G.X s.heap z u) {H':AH} (h:storeI H a i z (H a)=some H') {Q:AH->Prop} (q:Q H') :
    wpAny (model G.prog G.w) A (setItem (.ref a) (.int i t) u) (PU G H s Q) F0 s:=by
  rcases hH:H a with uu | ⟨⟨⟩⟩ <;> rw [hH] at h <;> try exact noS h
  · obtain ⟨hb,rfl⟩:=ite_e h
    obtain ⟨items,n,l1,l2,l3⟩:=R.list' hH
    have kk:∀ b o,b ≠ a->s.heap.get? b=some o->(s.heap.update a (Obj.mapSeq (·.setIfInBounds i.toNat u))).get? b=some o:=fun b o hb e=>(Heap.get?_update_other _ _ (Ne.symm hb)).trans e
    refine setItem_at l1 hb.1 (Int.lt_trans hb.2.2 (by decide)) (by rw [l3]; exact hb.2.1) (PU.upd R hH rfl s.toks kk ?_ q)
    refine ⟨_,_,l1.update _,?_⟩
    rw [Array.toList_setIfInBounds]
    exact RepVs.mono (R.immU hH kk) (l2.set rz)
  · rename_i fz kvs
    obtain ⟨⟨rfl,hlen⟩,rfl⟩:=ite_e h
    obtain ⟨cvs,d1,d2,d3⟩:=R.own _ _ hH
    refine wpAny_setItem_pairs (knd:=intKind G.prog G.w) (k:=i) (intKind_is _ _ _ _) d1 (fun h' e1 e2=>?_) (by rw [map_len d2,sizeLine_eq]; omega)
    have kk:∀ b o,b ≠ _->s.heap.get? b=some o->h'.get? b=some o:=fun b o hb e=>(e2.2 b hb).trans e
    obtain ⟨f1,f2⟩:=dset_stored rz kvs cvs (by obtain ⟨uu,uu,uu,uu,uu,uu,uu,uu,hn⟩:=d1; exact hn) d2 d3
    refine PU.upd R hH rfl _ kk ?_ q
    exact ⟨_,e1,f1,f2.mono (R.immU hH kk)⟩
theorem storeS_sound {s:Shared} {A:Around} (R:Rep G H s) {a:Addr} {x:String} {t:Tok} {z:V} {u:Value} (rz:RepV G.X s.heap z u) {H':AH} (h:storeS H a x z (H a)=some H') {Q:AH->Prop} (q:Q H') :
    wpAny (model G.prog G.w) A (setItem (.ref a) (.str (Str.ofString x) t) u) (PU G H s Q) F0 s:=by
  rcases hH:H a with uu | ⟨⟨⟩⟩ <;> rw [hH] at h <;> try exact noS h
  · rename_i fz kvs
    obtain ⟨⟨rfl,hlen⟩,rfl⟩:=ite_e h
    obtain rfl:=List.length_eq_zero_iff.mp hlen
    obtain ⟨cvs,d1,d2,d3⟩:=R.own _ _ hH
    obtain rfl:=List.map_eq_nil_iff.mp d2
    refine wpAny_setItem_pairs (knd:=PySem.strKind G.prog G.w) (k:=Str.ofString x) (strKind_is _ _ _ _) (DictOf.other d1) (fun h' e1 e2=>?_) (by decide)
    have kk:∀ b o,b ≠ _->s.heap.get? b=some o->h'.get? b=some o:=fun b o hb e=>(e2.2 b hb).trans e
    refine PU.upd R hH rfl _ kk ?_ q
    exact ⟨_,e1,rfl,u,[],rfl,rz.mono (R.immU hH kk),rfl⟩
  · rename_i fz kvs
    obtain ⟨⟨rfl,hlen⟩,rfl⟩:=ite_e h
    obtain ⟨cvs,d1,d2,d3⟩:=R.own _ _ hH
    refine wpAny_setItem_pairs (knd:=PySem.strKind G.prog G.w) (k:=Str.ofString x) (strKind_is _ _ _ _) d1 (fun h' e1 e2=>?_) (by rw [map_len d2,sizeLine_eq]; omega)
    have kk:∀ b o,b ≠ _->s.heap.get? b=some o->h'.get? b=some o:=fun b o hb e=>(e2.2 b hb).trans e
    obtain ⟨f1,f2⟩:=dset_stored (x:=Str.ofString x) rz (strK kvs) cvs (by obtain ⟨uu,uu,uu,uu,uu,uu,uu,uu,hn⟩:=d1; exact hn) (by rw [strK_1]; exact d2) (by rw [strK_2]; exact d3)
    rw [<- strK_set] at f1 f2
    rw [strK_1] at f1
    rw [strK_2] at f2
    refine PU.upd R hH rfl _ kk ?_ q
    exact ⟨_,e1,f1,f2.mono (R.immU hH kk)⟩
theorem store_sound {s:Shared} {A:Around} (R:Rep G H s) {x y z:V} {v w u:Value} (rx:RepV G.X s.heap x v) (ry:RepV G.X s.heap y w) (rz:RepV G.X s.heap z u) {H':AH} (h:storeF x y z H=some H') {Q:AH->Prop} (q:Q H') :
    wpAny (model G.prog G.w) A (setItem v w u) (PU G H s Q) F0 s:=by
  rcases x with ⟨⟩ <;> try exact noS h
  obtain rfl:=rx
  rcases y with ⟨⟩ <;> try exact noS h
  · obtain ⟨t,rfl⟩:=ry; exact storeI_sound R rz h q
  · obtain ⟨t,rfl⟩:=ry; exact storeS_sound R rz h q
theorem attr_lookup:∀ x ∈ attrNames,typeLookup (.type "object") (Str.ofString x)=pure none:=by
  intro x hx
  simp only [attrNames,List.mem_cons,List.not_mem_nil,or_false] at hx
  rcases hx with rfl | rfl | rfl | rfl | rfl | rfl | rfl | rfl | rfl | rfl | rfl | rfl | rfl <;> (rw [typeLookup_type,builtinLookup_eq_fast]; kernel_rfl)
theorem handed {X:Addr->Prop} {h:Heap} {r:V} {v:Value} (e:RepV X h r v):handedOut v=pure v:=by
  rcases r with ⟨⟩
  · obtain rfl:=e; rfl
  · obtain rfl:=e; rfl
  · obtain ⟨t,rfl⟩:=e; rfl
  · obtain ⟨t,rfl⟩:=e; rfl
  · obtain ⟨a,uu,uu,rfl,uu⟩:=e; rfl
  · obtain rfl:=e; rfl
  · obtain ⟨a,uu,uu,uu,rfl,uu⟩:=e; rfl
  · exact e.elim
inductive InstR (G:GC) (h:Heap) (a dx:Addr) (kvs:List (String × V)):Prop
  | mk (mA:Str->Option Value) (i:h.Inst a G.C mA) (w:Within mA (attrNames.map Str.ofString)) (r:∀ x v,dget kvs x=some v->∃ w,mA (Str.ofString x)=some w/\RepV G.X h v w) (o:Obj) (e:h.get? a=some o) (d:o.dict=some dx)
theorem Rep.inst {s:Shared} (R:Rep G H s) {a dx:Addr} {kvs:List (String × V)} (h1:H a=some (.inst dx)) (h2:H dx=some (.ns kvs)):InstR G s.heap a dx kvs:=by
  obtain ⟨e0,o,e1,e2,e3,e4⟩:=R.own _ _ h1
  obtain ⟨mA,f1,f2,f3⟩:=R.own _ _ h2
  exact ⟨mA,⟨o,e1,e2,e4,.inr ⟨dx,e3,e0,f1⟩⟩,f2,f3,o,e1,e3⟩
inductive ClsO (h:Heap) (C N:Addr):Prop
  | mk (nm q:Str) (bs:List Value) (sn:List Str) (sub:List Value) (col:Option Bool) (dd:Option Addr) (k0 k1 k2 k3 k5:Option Value) (e:h.get? C=some (excClassObj nm q C N bs [.type "object"] true sn sub false col dd k0 k1 k2 k3 k5 "object.__new__"))
theorem clsO {h:Heap} {C N:Addr} {m:Str->Option Value} (x:ClsAt h C N m):ClsO h C N:=by
  obtain ⟨nm,q,bs,sn,sub,col,dd,k0,k1,k2,k3,k5,e⟩:=x.obj
  exact ⟨nm,q,bs,sn,sub,col,dd,k0,k1,k2,k3,k5,e⟩
inductive ClsG (G:GC) (h:Heap):Prop
  | mk (N:Addr) (mN:Str->Option Value) (c:ClsAt h G.C N mN) (c2:mN "__setattr__" = none) (c3:mN "__getattribute__" = none) (c4:∀ x ∈ attrNames,mN (Str.ofString x)=none) (o:ClsO h G.C N)
theorem Rep.cls {s:Shared} (gk:GOK G) (R:Rep G H s):ClsG G s.heap:=by
  obtain ⟨N,mN,fI,oI,c1,c2,c3,c4,uu⟩:=gk.cls
  exact ⟨N,mN,c1.keeps R.ground,c2,c3,c4,clsO (c1.keeps R.ground)⟩
theorem attr_sound (gk:GOK G) {s:Shared} {A:Around} (R:Rep G H s) {x r:V} {v:Value} {n:String} (hn:n ∈ attrNames) {expr:Bool} (rx:RepV G.X s.heap x v) (h:attrF x n H=some r) {Q:V->AH->Prop} (q:Q r H) :
    wpAny (model G.prog G.w) A (getAttr v (Str.ofString n) expr) (PV G H s Q) F0 s:=by
  rcases x with ⟨⟩ <;> try exact noS h
  obtain rfl:=rx
  obtain ⟨⟨dx,kvs⟩,hp,h⟩:=bind_e h
  obtain ⟨h1,h2⟩:=fldAt_e hp
  obtain ⟨mA,i1,i2,i3,uu⟩:=R.inst h1 h2
  obtain ⟨w,w1,w2⟩:=i3 _ _ h
  obtain ⟨N,mN,c1,c2,c3,c4,⟨nm,q',bs,sn,sub,col,dd,k0,k1,k2,k3,k5,hC⟩⟩:=R.cls gk
  obtain ⟨hh,g,d,t,os⟩:=s
  exact load_attr hC c1.ns c3 (c4 _ hn) (attr_lookup _ hn) i1 w1 (handed w2) (PA.val (s:=⟨hh,g,d,t,os⟩) R w2 q)
theorem dset_self {y:String} {z:V}:∀ l:List (String × V),dget (dset l y z) y=some z
  | []=>if_pos rfl
  | (k,v)::r=>by
    show dget (if k=y then (k,z)::r else (k,v)::dset r y z) y=some z
    by_cases h:k=y
    · rw [if_pos h]; exact if_pos h
    · rw [if_neg h]; exact (if_neg h).trans (dset_self r)
theorem dset_ne {n y:String} {z:V} (h:y ≠ n):∀ l:List (String × V),dget (dset l n z) y=dget l y
  | []=>if_neg h.symm
  | (k,v)::r=>by
    show dget (if k=n then (k,z)::r else (k,v)::dset r n z) y=if k=y then some v else dget r y
    by_cases hk:k=n
    · subst hk; rw [if_pos rfl,if_neg h.symm]; exact if_neg h.symm
    · rw [if_neg hk,<- dset_ne h r]; rfl
theorem obj_eq {o o1:Obj} {dx:Addr} (i5:o.dict=some dx) (l2:o1.cls=o.cls) (l3:o1.data=o.data) (l4:o1.slots=o.slots) (l5:∀ d,o.dict=some d->o1.dict=some d):o1=o:=by
  obtain ⟨oc,od,odt,osl⟩:=o
  obtain ⟨oc1,od1,odt1,osl1⟩:=o1
  obtain rfl:oc1=oc:=l2
  obtain rfl:odt1=odt:=l3
  obtain rfl:osl1=osl:=l4
  obtain rfl:od=some dx:=i5
  obtain rfl:od1=some dx:=l5 dx rfl
  rfl
theorem setAttr_sound (gk:GOK G) {s:Shared} {A:Around} (R:Rep G H s) {x z:V} {v u:Value} {n:String} (hn:n ∈ attrNames) (rx:RepV G.X s.heap x v) (rz:RepV G.X s.heap z u) {H':AH} (h:setAttrF x n z H=some H') {Q:AH->Prop} (q:Q H') :
    wpAny (model G.prog G.w) A (setAttr v (Str.ofString n) u) (PU G H s Q) F0 s:=by
  rcases x with ⟨⟩ <;> try exact noS h
  rename_i a
  obtain rfl:=rx
  obtain ⟨⟨dx,kvs⟩,hp,h⟩:=bind_e h
  obtain rfl:=Option.some.inj h
  obtain ⟨h1,h2⟩:=fldAt_e hp
  obtain ⟨mA,i1,i2,i3,o,i4,i5⟩:=R.inst h1 h2
  have hxC:a ≠ G.C:=fun hh=>by
    obtain ⟨N,mN,fI,oI,c1,uu⟩:=gk.cls
    obtain ⟨nm,q',bs,sn,sub,col,dd,k0,k1,k2,k3,k5,hC⟩:=clsO c1
    exact nomatch h1.symm.trans ((congrArg H hh).trans (R.gmut _ _ hC))
  obtain ⟨N,mN,c1,c2,c3,c4,⟨nm,q',bs,sn,sub,col,dd,k0,k1,k2,k3,k5,hC⟩⟩:=R.cls gk
  obtain ⟨hh,g,d,t,os⟩:=s
  refine store_attr PySem.F.store_object hC c1.ns c2 (c4 _ hn) (attr_lookup _ hn) hxC i1 (fun h' tk' j1 j2 j3=>?_) i2 (by decide)
  obtain ⟨o1,l1,l2,l3,l4,l5⟩:=j3 o i4
  obtain rfl:=obj_eq i5 l2 l3 l4 l5
  have kk:∀ b ob,b ≠ dx->hh.get? b=some ob->h'.get? b=some ob:=fun b ob hb e=>by
    by_cases hba:b=a
    · subst hba
      obtain rfl:=Option.some.inj (i4.symm.trans e)
      exact l1
    · exact j2 b ob hba (fun o₀ d' e₀ ed=>by
        obtain rfl:=Option.some.inj (i4.symm.trans e₀)
        obtain rfl:=Option.some.inj (i5.symm.trans ed)
        exact hb) e
  have imm:=R.immU h2 kk
  refine PU.upd (s:=⟨hh,g,d,t,os⟩) R h2 rfl tk' kk ?_ q
  obtain ⟨o2,m1,m2,m3,m4⟩:=j1
  obtain rfl:=Option.some.inj (l1.symm.trans m1)
  rcases m4 with ⟨m5,uu⟩ | ⟨d',m5,m6,m7⟩
  · exact nomatch i5.symm.trans m5
  obtain rfl:=Option.some.inj (i5.symm.trans m5)
  refine ⟨_,m7,fun y hy=>?_,fun y vv e=>?_⟩
  · by_cases hyn:y=Str.ofString n
    · exact List.mem_map.mpr ⟨n,hn,hyn.symm⟩
    · exact i2 y (by rwa [if_neg hyn] at hy)
  · by_cases hyn:y=n
    · subst hyn
      obtain rfl:=Option.some.inj ((dset_self kvs).symm.trans e)
      exact ⟨u,if_pos rfl,rz.mono imm⟩
    · obtain ⟨w,w1,w2⟩:=i3 y vv ((dset_ne hyn kvs).symm.trans e)
      exact ⟨w,(if_neg fun h=>hyn (ofString_inj h)).trans w1,w2.mono imm⟩
end
end Mine
end
section
open PySem PySem.W PyProof.Rows PySem.SeqAt
set_option maxRecDepth 100000
namespace Mine
variable {G:GC}
section
variable {fi:FI} {k:Nat} {ρ:Env} {H:AH}
theorem evalArgs_any {M:Model} {A:Around} {E:Value->Shared->Prop} {s:Shared} {f:Value} {args:List (Bool × Sem Value)} {Q:Args->Shared->Prop} (hp:args.any (·.1)=false)
    (h:wpAny M A (spliced args) (fun vs s'=>Q ⟨vs,[]⟩ s') E s):wpAny M A (evalArgs f true args []) Q E s:=by
  rcases args with uu | ⟨⟨b,x⟩,r⟩
  · unfold evalArgs
    exact wpAny_bind (wpAny_mono h (fun vs s' h'=>wpAny_bind (wpAny_pure (wpAny_holding (wpAny_bind (wpAny_pure (wpAny_bind (wpAny_pure (wpAny_pure h')))))))) fun uu uu x=>x)
  · obtain rfl:b=false:=(Bool.or_eq_false_iff.mp hp).1
    exact Calls.evalArgs_plain h
theorem len_ofString (x:String):(Str.ofString x).length=x.toList.length:=by
  show (Str.ofString x).cps.size=_
  rw [<- Array.length_toList,cps_ofString,List.length_map]
theorem map_toNat_inj:∀ (a b:List Char),a.map Char.toNat=b.map Char.toNat->a=b
  | [],[],_=>rfl
  | [],_::_,h=>nomatch h
  | _::_,[],h=>nomatch h
  | c::a,d::b,h=>by
    obtain ⟨h1,h2⟩:=List.cons.inj h
    rw [Char.toNat_inj.mp h1,map_toNat_inj a b h2]
theorem isSuffix_sub (x y:String):Txt.endswith (Str.ofString x) (Str.ofString y)=y.toList.isSuffixOf x.toList:=by
  rw [Bool.eq_iff_iff,List.isSuffixOf_iff_suffix,List.suffix_iff_eq_drop]
  simp only [Txt.endswith,StrLaws.subAt_eq,cps_ofString,len_ofString,Bool.and_eq_true,decide_eq_true_eq,beq_iff_eq,Nat.zero_add]
  constructor
  · rintro ⟨h1,h2⟩
    rw [List.take_of_length_le (by simp; omega),<- List.map_drop] at h2
    exact (map_toNat_inj _ _ h2).symm
  · intro h
    have h1:y.toList.length<=x.toList.length:=by rw [h]; simp
    refine ⟨h1,?_⟩
    rw [List.take_of_length_le (by simp; omega),<- List.map_drop,<- h]
theorem PV.seq {s:Shared} {Q:V->AH->Prop} (R:Rep G H s) {a:Addr} {xs vs:List V} {items:Array Value} {n:Nat} (hx:H a=some (.list xs)) (l1:IsL s.heap a items n) (f:Array Value->Array Value)
    (e:RepVs G.X s.heap vs (f items).toList) {r:V} {v:Value} (er:RepV G.X s.heap r v) (q:Q r (H.set a (.list vs))):PV G H s Q v { s with heap:=s.heap.update a (Obj.mapSeq f) }:=by
  have keepU:∀ b o,b ≠ a->s.heap.get? b=some o->(s.heap.update a (Obj.mapSeq f)).get? b=some o:=fun b o hb e=>(Heap.get?_update_other _ _ (Ne.symm hb)).trans e
  have e':RepO G (s.heap.update a (Obj.mapSeq f)) a (.list vs):=⟨_,_,l1.update f,e.mono (R.immU hx keepU)⟩
  exact PV.upd R hx rfl s.toks keepU e' er q
noncomputable def methT (m:String):Option (String × String) :=
  if m = "append" then some ("list", "list.append") else if m = "extend" then some ("list", "list.extend") else if m = "pop" then some ("list", "list.pop")
  else if m = "reverse" then some ("list", "list.reverse") else if m = "index" then some ("list", "list.index") else if m = "get" then some ("dict", "dict.get")
  else if m = "endswith" then some ("str", "str.endswith") else none
theorem args1 {X:Addr->Prop} {h:Heap} {v:V} {ws:List Value} {P:List Value->Prop} (r:RepVs X h [v] ws) (k:∀ w,RepV X h v w->P [w]):P ws:=by
  obtain ⟨w,r',rfl,rw,e⟩:=r
  obtain rfl:r'=[]:=e
  exact k w rw
theorem args2 {X:Addr->Prop} {h:Heap} {v u:V} {ws:List Value} {P:List Value->Prop} (r:RepVs X h [v,u] ws) (k:∀ w z,RepV X h v w->RepV X h u z->P [w,z]):P ws:=by
  obtain ⟨w,r',rfl,rw,e⟩:=r
  exact args1 (P:=fun r'=>P (w::r')) e fun z hz=>k w z rw hz
theorem methT_e {m T id m' T' id':String} (h:methT m=some (T,id)) (hm:m=m') (h':methT m'=some (T',id')) {P:String->Prop} (k:P id'):P id:=by
  subst hm
  exact (Prod.mk.inj (Option.some.inj (h.symm.trans h'))).2 ▸ k
section
variable {s:Shared} {A:Around} {r:V} {vs:List V} {ws:List Value} {H':AH} {Q:V->AH->Prop} {a:Addr} {xs:List V}
theorem sizeOk {n k:Nat} (h:n=k) (h2:k<10000):n<=sizeLine:=by rw [h,sizeLine_eq]; exact Nat.le_trans (Nat.le_of_lt h2) (by decide)
theorem m_append (R:Rep G H s) (rv:RepVs G.X s.heap vs ws) (hx:H a=some (.list xs)) (h:mAppend H a xs vs=some (r,H')) (q:Q r H'):wpAny (model G.prog G.w) A (call (.builtin "list.append") (.ref a::ws)) (PV G H s Q) F0 s:=by
  rcases vs with uu | ⟨v,uu | ⟨u,t⟩⟩ <;> try exact noS h
  obtain ⟨hlen,e⟩:=ite_e h
  obtain ⟨rfl,rfl⟩:=Prod.mk.inj e
  obtain ⟨items,n,l1,l2,l3⟩:=R.list' hx
  exact args1 (P:=fun ws=>wpAny (model G.prog G.w) A (call (.builtin "list.append") (.ref a::ws)) (PV G H s Q) F0 s) rv fun w rw=>call_meets F.slot_list_append ⟨_,l1,rfl⟩ F.entry_list_append (F.args_list_append_2 _ _) (list_append a items n w (sizeOk l3 hlen)) ⟨l1,
    PV.seq R hx l1 _ (by rw [Array.toList_push]; exact l2.append (RepVs.one rw)) rNone q⟩
theorem m_extend (R:Rep G H s) (rv:RepVs G.X s.heap vs ws) (hx:H a=some (.list xs)) (h:mExtend H a xs vs=some (r,H')) (q:Q r H'):wpAny (model G.prog G.w) A (call (.builtin "list.extend") (.ref a::ws)) (PV G H s Q) F0 s:=by
  obtain ⟨b,hb,h⟩:=bind_e h
  obtain ⟨ys,hy,h⟩:=bind_e h
  obtain ⟨hlen,e⟩:=ite_e h
  obtain ⟨rfl,rfl⟩:=Prod.mk.inj e
  obtain rfl:=ref1_e hb
  obtain ⟨items,n,l1,l2,l3⟩:=R.list' hx
  obtain ⟨items2,n2,m1,m2,m3⟩:=R.list' (listAt_e hy)
  refine args1 (P:=fun ws=>wpAny (model G.prog G.w) A (call (.builtin "list.extend") (.ref a::ws)) (PV G H s Q) F0 s) rv fun w rw=>?_
  obtain rfl:=rw
  refine call_meets F.slot_list_extend ⟨_,l1,rfl⟩ F.entry_list_extend (F.args_list_extend_2 _ _) (AutoSeq1.list_extend_list_list_0 a items n _ items2 n2 ?_ (by rw [sizeLine_eq]; omega) (by rw [sizeLine_eq]; omega)) ⟨l1,m1,?_⟩
  · simp [Builtin.List.listTooLong,sizeLine]; omega
  exact PV.seq R hx l1 _ (by rw [Array.toList_append]; exact l2.append m2) rNone q
theorem m_pop (R:Rep G H s) (rv:RepVs G.X s.heap vs ws) (hx:H a=some (.list xs)) (h:mPop H a xs vs=some (r,H')) (q:Q r H'):wpAny (model G.prog G.w) A (call (.builtin "list.pop") (.ref a::ws)) (PV G H s Q) F0 s:=by
  rcases vs with uu | ⟨v,t⟩ <;> try exact noS h
  obtain ⟨u,hlast,h⟩:=bind_e h
  obtain ⟨hlen,e⟩:=ite_e h
  obtain ⟨rfl,rfl⟩:=Prod.mk.inj e
  obtain ⟨items,n,l1,l2,l3⟩:=R.list' hx
  obtain rfl:=rv
  rw [List.getLast?_eq_getElem?] at hlast
  obtain ⟨y,y1,y2⟩:=l2.get hlast
  have hne:xs.length - 1<xs.length:=(List.getElem?_eq_some_iff.mp hlast).1
  refine call_meets F.slot_list_pop ⟨_,l1,rfl⟩ F.entry_list_pop (F.args_list_pop_1 _) (MeetsSeq.list_pop_last a items n y (by rw [l3,<- Array.getElem?_toList]; exact y1) (sizeOk l3 hlen)) ⟨l1,?_⟩
  refine PV.seq R hx l1 _ ?_ y2 q
  have e:(items.eraseIdxIfInBounds (items.size - 1)).toList=items.toList.take (items.size - 1):=by
    rw [Array.eraseIdxIfInBounds,dif_pos (by rw [l3]; exact hne)]
    rw [Array.toList_eraseIdx,List.eraseIdx_eq_take_drop_succ]
    rw [List.drop_of_length_le (by rw [Array.length_toList]; omega),List.append_nil]
  rw [e,l3,List.dropLast_eq_take]
  exact l2.take _
theorem m_reverse (R:Rep G H s) (rv:RepVs G.X s.heap vs ws) (hx:H a=some (.list xs)) (h:mReverse H a xs vs=some (r,H')) (q:Q r H'):wpAny (model G.prog G.w) A (call (.builtin "list.reverse") (.ref a::ws)) (PV G H s Q) F0 s:=by
  rcases vs with uu | ⟨v,t⟩ <;> try exact noS h
  obtain ⟨hlen,e⟩:=ite_e h
  obtain ⟨rfl,rfl⟩:=Prod.mk.inj e
  obtain ⟨items,n,l1,l2,l3⟩:=R.list' hx
  obtain rfl:=rv
  exact call_meets F.slot_list_reverse ⟨_,l1,rfl⟩ F.entry_list_reverse (F.args_list_reverse_1 _) (AutoSeq1.list_reverse_list_0 a items n (sizeOk l3 hlen)) ⟨l1,
    PV.seq R hx l1 _ (by rw [Array.toList_reverse]; exact l2.reverse) rNone q⟩
theorem m_index (R:Rep G H s) (rv:RepVs G.X s.heap vs ws) (hx:H a=some (.list xs)) (h:mIndex H xs vs=some (r,H')) (q:Q r H'):wpAny (model G.prog G.w) A (call (.builtin "list.index") (.ref a::ws)) (PV G H s Q) F0 s:=by
  rcases vs with uu | ⟨v,uu | ⟨u,t⟩⟩ <;> try exact noS h
  obtain ⟨hlen,h⟩:=Option.ite_none_right_eq_some.mp h
  obtain ⟨j,hj,e⟩:=Option.map_eq_some_iff.mp h
  obtain ⟨rfl,rfl⟩:=Prod.mk.inj e
  obtain ⟨b,hb⟩:=Option.isSome_iff_exists.mp hlen.2
  obtain ⟨items,n,l1,l2,l3⟩:=R.list' hx
  refine args1 (P:=fun ws=>wpAny (model G.prog G.w) A (call (.builtin "list.index") (.ref a::ws)) (PV G H s Q) F0 s) rv fun w rw=>?_
  obtain ⟨i1,uu⟩:=anyF_spec (A:=A.in1) rw _ _ b hb l2
  obtain ⟨j1,j2,j3⟩:=indexF_spec (A:=A) rw _ _ j hj l2
  refine call_meets F.slot_list_index ⟨_,l1,rfl⟩ F.entry_list_index (F.args_list_index_2 _ _) (list_indexAt a items n none #[] w (eqVal · w) j j1 (by have h1:=hlen.1; have h2:j<items.size:=j1; omega) j2 j3) ⟨l1,fun y hy=>i1 y (Array.mem_toList_iff.mpr hy),?_⟩
  exact PA.val R rInt q
theorem m_get (gk:GOK G) (R:Rep G H s) (rv:RepVs G.X s.heap vs ws) {fz:Bool} {kvs:List (Int × V)} (hd:H a=some (.di fz kvs)) (h:mGet H kvs vs=some (r,H')) (q:Q r H'):wpAny (model G.prog G.w) A (call (.builtin "dict.get") (.ref a::ws)) (PV G H s Q) F0 s:=by
  obtain ⟨oS,hs⟩:=gk.sysm
  rcases vs with uu | ⟨v,uu | ⟨d,uu | ⟨u,t⟩⟩⟩ <;> try exact noS h
  rcases v with ⟨⟩ <;> try exact noS h
  rename_i i
  obtain ⟨rfl,rfl⟩:=Prod.mk.inj (Option.some.inj h)
  obtain ⟨cvs,d1,d2,d3⟩:=R.own _ _ hd
  refine args2 (P:=fun ws=>wpAny (model G.prog G.w) A (call (.builtin "dict.get") (.ref a::ws)) (PV G H s Q) F0 s) rv fun w w2 rw rd=>?_
  obtain ⟨t,rfl⟩:=rw
  refine call_meetsIn F.slot_dict_get d1.typeIs F.entry_dict_get (F.args_dict_get_3 _ _ _) (meets_dict_get_default (intKind G.prog G.w) a (k:=i) (intKind_is _ _ _ _) (R.notSys hs hd) w2) ⟨_,d1.mapOf,?_⟩
  rcases dget_rel kvs cvs i d2 d3 with ⟨u,z,h1,h2,h3⟩ | ⟨h1,h2⟩ <;> rw [h2] <;> rw [h1] at q
  · exact PA.val R h3 q
  · exact PA.val R rd q
end
theorem meth_call (gk:GOK G) {s:Shared} {A:Around} (Rm:Room k A) (R:Rep G H s) {x r:V} {m T id:String} {vs:List V} {v:Value} {ws:List Value} (rx:RepV G.X s.heap x v) (rv:RepVs G.X s.heap vs ws) (hm:methT m=some (T,id))
    {H':AH} (h:methF x m vs H=some (r,H')) {Q:V->AH->Prop} (q:Q r H'):wpAny (model G.prog G.w) A (call (.builtin id) (v::ws)) (PV G H s Q) F0 s:=by
  rcases x with ⟨⟩ <;> try exact noS h
  · rename_i x
    obtain ⟨t,rfl⟩:=rx
    obtain ⟨hm',h⟩:=Option.ite_none_right_eq_some.mp h
    refine methT_e (P:=fun id=>wpAny (model G.prog G.w) A (call (.builtin id) (.str (Str.ofString x) t::ws)) (PV G H s Q) F0 s) hm hm' rfl ?_
    rcases vs with uu | ⟨v,uu | ⟨u,t⟩⟩ <;> try exact noS h
    rcases v with ⟨⟩ <;> try exact noS h
    obtain ⟨rfl,rfl⟩:=Prod.mk.inj (Option.some.inj h)
    refine args1 (P:=fun ws=>wpAny (model G.prog G.w) A (call (.builtin "str.endswith") (.str (Str.ofString x) t::ws)) (PV G H s Q) F0 s) rv fun w rw=>?_
    obtain ⟨u,rfl⟩:=rw
    refine SC.endswith ?_
    rw [isSuffix_sub]
    exact PA.same R rBool q
  · rename_i a
    obtain rfl:=rx
    have h:methO H a m vs (H a)=some (r,H'):=h
    rcases hH:H a with uu | ⟨⟨⟩⟩ <;> rw [hH] at h <;> try exact noS h
    · have go:∀ {m' T' id':String},m=m'->methT m'=some (T',id')->wpAny (model G.prog G.w) A (call (.builtin id') (.ref a::ws)) (PV G H s Q) F0 s->wpAny (model G.prog G.w) A (call (.builtin id) (.ref a::ws)) (PV G H s Q) F0 s :=
        fun e e' z=>methT_e (P:=fun id=>wpAny (model G.prog G.w) A (call (.builtin id) (.ref a::ws)) (PV G H s Q) F0 s) hm e e' z
      unfold methO at h
      dsimp only at h
      by_cases h1:m = "append"
      · rw [if_pos h1] at h; exact go h1 rfl (m_append R rv hH h q)
      rw [if_neg h1] at h
      by_cases h1:m = "extend"
      · rw [if_pos h1] at h; exact go h1 rfl (m_extend R rv hH h q)
      rw [if_neg h1] at h
      by_cases h1:m = "pop"
      · rw [if_pos h1] at h; exact go h1 rfl (m_pop R rv hH h q)
      rw [if_neg h1] at h
      by_cases h1:m = "reverse"
      · rw [if_pos h1] at h; exact go h1 rfl (m_reverse R rv hH h q)
      rw [if_neg h1] at h
      obtain ⟨h1,h⟩:=Option.ite_none_right_eq_some.mp h
      exact go h1 rfl (m_index R rv hH h q)
    · obtain ⟨h1,h⟩:=Option.ite_none_right_eq_some.mp h
      exact methT_e (P:=fun id=>wpAny (model G.prog G.w) A (call (.builtin id) (.ref a::ws)) (PV G H s Q) F0 s) hm h1 rfl (m_get gk R rv hH h q)
end
end Mine
end
section
open PySem PySem.W PyProof.Rows PySem.SeqAt
set_option maxRecDepth 100000
namespace Mine
variable {G:GC}
section
variable {fi:FI} {k:Nat} {ρ:Env} {H:AH}
theorem ints_of {X:Addr->Prop} {h:Heap}:∀ {xs:List V} {ws:List Value} {is:List Int},intsOf xs=some is->RepVs X h xs ws->IntsAre ws is
  | [],ws,is,e,r=>by
    obtain rfl:ws=[]:=r
    exact Option.some.inj e ▸ .nil
  | x::xs,ws,is,e,r=>by
    obtain ⟨w,ws',rfl,r1,r2⟩:=r
    rcases x with ⟨⟩ <;> try exact noS e
    obtain ⟨js,hj,rfl⟩:=Option.map_eq_some_iff.mp e
    obtain ⟨t,rfl⟩:=r1
    exact .cons _ t (ints_of hj r2)
theorem rep_ints {X:Addr->Prop} {h:Heap}:∀ {ws:List Value} {is:List Int},IntsAre ws is->RepVs X h (is.map V.int) ws
  | _,_,.nil=>rfl
  | _,_,.cons n t r=>⟨_,_,rfl,⟨t,rfl⟩,rep_ints r⟩
theorem ints_len:∀ {ws:List Value} {is:List Int},IntsAre ws is->ws.length=is.length
  | _,_,.nil=>rfl
  | _,_,.cons n t r=>congrArg (· + 1) (ints_len r)
theorem insI_perm (x:Int):∀ l:List Int,(insI x l).Perm (x::l)
  | []=>.refl _
  | y::r=>by
    by_cases h:x<=y
    · rw [show insI x (y::r)=x::y::r from if_pos h]
    · rw [show insI x (y::r)=y::insI x r from if_neg h]
      exact ((insI_perm x r).cons y).trans (.swap x y r)
theorem sortI_perm:∀ l:List Int,(sortI l).Perm l
  | []=>.refl _
  | x::r=>(insI_perm x _).trans ((sortI_perm r).cons x)
theorem insI_sorted (x:Int):∀ l:List Int,l.Pairwise (· <= ·)->(insI x l).Pairwise (· <= ·)
  | [],_=>List.pairwise_singleton _ _
  | y::r,h=>by
    have h':=List.pairwise_cons.mp h
    by_cases hxy:x<=y
    · rw [show insI x (y::r)=x::y::r from if_pos hxy]
      exact List.pairwise_cons.mpr ⟨List.forall_mem_cons.mpr ⟨hxy,fun z hz=>Int.le_trans hxy (h'.1 z hz)⟩,h⟩
    · rw [show insI x (y::r)=y::insI x r from if_neg hxy]
      exact List.pairwise_cons.mpr ⟨fun z hz=>(List.mem_cons.mp ((insI_perm x r).mem_iff.mp hz)).elim (fun e=>e ▸ Int.le_of_lt (Int.not_le.mp hxy)) (h'.1 z),insI_sorted x r h'.2⟩
theorem sortI_sorted:∀ l:List Int,(sortI l).Pairwise (· <= ·)
  | []=>.nil
  | x::r=>insI_sorted x _ (sortI_sorted r)
theorem sorted_unique {a b:List Int} (ha:a.Pairwise (· <= ·)) (hb:b.Pairwise (· <= ·)) (h:a.Perm b):a=b :=
  List.Perm.eq_of_pairwise (fun uu uu uu uu h1 h2=>Int.le_antisymm h1 h2) ha hb h
theorem intsAre_of:∀ {ws:List Value} {is:List Int},ws.length=is.length->(∀ (j:Nat) (w:Value) (i:Int),ws[j]? = some w->is[j]? = some i->∃ t,w = .int i t)->IntsAre ws is
  | [],[],_,_=>.nil
  | [],_::_,h,_=>nomatch h
  | _::_,[],h,_=>nomatch h
  | w::ws,i::is,h,g=>by
    obtain ⟨t,rfl⟩:=g 0 w i rfl rfl
    exact .cons i t (intsAre_of (Nat.succ.inj h) fun j w' i' e1 e2=>g (j+1) w' i' e1 e2)
theorem Rep.notX {s:Shared} (R:Rep G H s) {a:Addr} (h:s.heap.get? a=none):¬ G.X a:=fun hx=>(R.xl a hx).2.elim fun o e=>nomatch h.symm.trans e
theorem sorted_dict {prog:Program} {w:World} {A:Around} {E:Value->Shared->Prop} {s:Shared} {Q:Value->Shared->Prop} (hh:A.handled=none) {d:Addr} {kvs:List (Int × Value)} (hs:(d == sysModules)=false)
    (hd:s.heap.DictOf (intKind prog w) d kvs) (h64:kvs.length<64)
    (h:∀ (h':Heap) (tk n:Nat) (a:Addr) (out:Array Value) (ns:List Int),(∀ b o,s.heap.get? b=some o->h'.get? b=some o)->s.heap.get? a=none->IsL h' a out n->IntsAre out.toList ns ->
      ns.Perm (kvs.map (·.1))->ns.Pairwise (· <= ·)->Q (.ref a) { s with heap:=h',toks:=tk }) :
    wpAny (model prog w) A (call (.builtin "sorted") [.ref d]) Q E s:=by
  obtain ⟨ep,hat⟩:=hd.dictAt
  refine Calls.call_function_entry kind_sorted plain_sorted entry_sorted (args_sorted1 _) ?_
  unfold Builtin.«sorted»
  refine wpAny_bind (m:=checkCount "sorted" 1 1 _) (wpAny_pure ?_)
  refine wpAny_bind (kdu_collect (A:=A.in1) (kdl_dict (knd:=intKind prog w) (kvs:=kvs) (ep:=ep) hs) hh hat (by rw [sizeLine_eq]; omega) fun h' tk acc hk hacc=>?_)
  refine wpAny_bind (wpAny_newList ?_ (by rw [Array.length_toList,hacc.1,sizeLine_eq]; omega))
  have hI:IntsAre acc.toList (kvs.map (·.1)):=by
    refine intsAre_of (by rw [Array.length_toList,hacc.1,List.length_map]) fun j w i e1 e2=>?_
    rw [Array.getElem?_toList] at e1
    obtain ⟨k,x,h1,h2⟩:=hacc.2 j w e1
    rw [List.getElem?_map,h1] at e2
    cases e2
    exact Value.isInt_shape h2
  have hoL:(h'.push (seqObj "list" acc.toList.toArray 0)).get? h'.objs.size=some (seqObj "list" acc.toList.toArray 0):=Heap.get?_push_size _ rfl
  show wpAny _ _ _ _ _ { s with heap:=h'.push (seqObj "list" acc.toList.toArray 0),toks:=tk }
  refine wpAny_bind (wpAny_holding (wpAny_call_entry slot_list_sort ⟨_,hoL,rfl⟩ entry_list_sort (list_sort_tree hoL hI (by rw [Array.length_toList,hacc.1]; exact h64) fun out ns' a1 a2 a3=>⟨_,rfl,?_⟩) (args_list_sort _)))
  refine wpAny_pure ⟨_,rfl,?_⟩
  obtain ⟨e,he⟩:=sortedHeap_at (vs:=acc.toList) (out:=out) hoL
  refine h _ tk e _ out ns' (fun b o hb=>?_) ?_ he a1 a2 a3
  · have hb':=hk b o hb
    have hlt:=Heap.lt_size hb'
    rw [sortedHeap_old (Nat.ne_of_lt hlt) (by rw [Heap.size_push]; exact Nat.lt_succ_of_lt hlt)]
    exact Heap.get?_push_of_some _ hb'
  · exact al_of hk (none_size h')
theorem sum_bound:∀ (l:List Int) (n:Nat),(∀ i ∈ l,i.natAbs<1099511627776)->l.length<=n->l.sum.natAbs<=n*1099511627776
  | [],n,_,_=>Nat.zero_le _
  | i::r,0,_,h=>absurd h (Nat.not_succ_le_zero _)
  | i::r,n+1,hb,h=>by
    have h1:=hb i (.head _)
    have h2:=sum_bound r n (fun j hj=>hb j (.tail _ hj)) (Nat.le_of_succ_le_succ h)
    rw [List.sum_cons]
    omega
theorem sumFits_of {is:List Int} (h:is.all (fun i=>decide (i.natAbs<1099511627776))=true) (hl:is.length<=1000):PySem.SumFits is:=by
  have hb:∀ i ∈ is,i.natAbs<1099511627776:=fun i hi=>of_decide_eq_true (List.all_eq_true.mp h i hi)
  refine fun j hj=>⟨?_,?_⟩
  · have:=hb _ (getD_mem hj)
    unfold InLong; omega
  · have:=sum_bound (is.take (j+1)) 1000 (fun i hi=>hb i (List.mem_of_mem_take hi)) (Nat.le_trans (List.length_take_le' _ _) hl)
    unfold InLong; omega
section
variable {s:Shared} {A:Around} {vs:List V} {ws:List Value} {r:Rs} {Q:V->AH->Prop}
theorem b_len (R:Rep G H s) (rv:RepVs G.X s.heap vs ws) (h:biLen vs H=some r) (q:retR r H Q):wpAny (model G.prog G.w) A (call (.builtin "len") ws) (PV G H s Q) F0 s:=by
  obtain ⟨a,ha,h⟩:=bind_e h
  obtain ⟨xs,hx,h⟩:=bind_e h
  obtain ⟨hlen,rfl⟩:=ite_e h
  obtain rfl:=ref1_e ha
  refine args1 (P:=fun ws=>wpAny (model G.prog G.w) A (call (.builtin "len") ws) (PV G H s Q) F0 s) rv fun w rw=>?_
  obtain rfl:=rw
  obtain ⟨items,n,l1,l2,l3⟩:=R.list' (listAt_e hx)
  exact len_list l1.isList (fitN l3 hlen) (l3 ▸ PA.val R rInt q)
theorem rng_new (R:Rep G H s) {o:Obj} {t:Nat} {r:V} (e:RepV G.X (s.heap.push o) r (.ref s.heap.objs.size)) (q:Q r H):PV G H s Q (.ref s.heap.objs.size) { s with heap:=s.heap.push o,toks:=t } :=
  ⟨_,H,StepX.grow _ (fun b o e=>Heap.get?_push_of_some _ e),R.grow _ (fun b o e=>Heap.get?_push_of_some _ e),e,q⟩
theorem b_range (R:Rep G H s) (rv:RepVs G.X s.heap vs ws) (h:biRange vs=some r) (q:retR r H Q):wpAny (model G.prog G.w) A (call (.type "range") ws) (PV G H s Q) F0 s:=by
  rcases vs with uu | ⟨v,uu | ⟨v2,vs⟩⟩
  · exact noS h
  · rcases v with ⟨⟩ <;> try exact noS h
    obtain ⟨hb,rfl⟩:=ite_e h
    refine args1 (P:=fun ws=>wpAny (model G.prog G.w) A (call (.type "range") ws) (PV G H s Q) F0 s) rv fun w rw=>?_
    obtain ⟨t,rfl⟩:=rw
    exact call_range_1 (rng_new (r:=.rng 0 _) R ⟨_,_,_,_,rfl,IsRange.new _ _ _ _ _ _ _,R.notX (none_size _),by decide,by decide,hb.2,hb.1⟩ q)
  · obtain ⟨p,hp,h⟩:=bind_e h
    obtain ⟨hb,rfl⟩:=ite_e h
    rw [int2_e hp] at rv
    refine args2 (P:=fun ws=>wpAny (model G.prog G.w) A (call (.type "range") ws) (PV G H s Q) F0 s) rv fun w z rw rz=>?_
    obtain ⟨t,rfl⟩:=rw; obtain ⟨u,rfl⟩:=rz
    exact call_range_2 (rng_new (r:=.rng _ _) R ⟨_,_,_,_,rfl,IsRange.new _ _ _ _ _ _ _,R.notX (none_size _),hb.2.1,hb.1,hb.2.2.2,hb.2.2.1⟩ q)
theorem b_sorted (gk:GOK G) (hh:A.handled=none) (R:Rep G H s) (rv:RepVs G.X s.heap vs ws) (h:biSorted vs H=some r) (q:retR r H Q):wpAny (model G.prog G.w) A (call (.builtin "sorted") ws) (PV G H s Q) F0 s:=by
  obtain ⟨oS,hs⟩:=gk.sysm
  obtain ⟨a,ha,h⟩:=bind_e h
  obtain ⟨is,his,h⟩:=bind_e h
  obtain ⟨hlen,rfl⟩:=ite_e h
  obtain rfl:=ref1_e ha
  refine args1 (P:=fun ws=>wpAny (model G.prog G.w) A (call (.builtin "sorted") ws) (PV G H s Q) F0 s) rv fun w rw=>?_
  obtain rfl:=rw
  have his:sortO (H a)=some is:=his
  rcases hH:H a with uu | ⟨⟨⟩⟩ <;> rw [hH] at his <;> try exact noS his
  · obtain ⟨items,n,l1,l2⟩:=R.list hH
    have hI:=ints_of his l2
    refine sorted_ints (vs:=items.toList) l1.isList hI (by rw [ints_len hI]; exact hlen) fun out ns' a1 a2 a3=>?_
    obtain ⟨e,he⟩:=sortedAll_at s.heap items.toList out
    obtain rfl:ns'=sortI is:=sorted_unique a3 (sortI_sorted is) (a2.trans (sortI_perm is).symm)
    exact PA.newList (t:=s.toks) R (rep_ints a1) (Heap.get?_none_of_le (Nat.le_succ _)) (fun b o e=>sortedAll_old e) he q
  · rename_i fz kvs
    obtain rfl:=Option.some.inj his
    obtain ⟨cvs,d1,d2,d3⟩:=R.own _ _ hH
    refine sorted_dict hh (R.notSys hs hH) d1 (by rw [map_len d2]; rwa [List.length_map] at hlen) fun h' tk n a out ns hk' hn hl1 a1 a2 a3=>?_
    obtain rfl:ns=sortI (kvs.map (·.1)):=sorted_unique a3 (sortI_sorted _) (a2.trans (d2 ▸ (sortI_perm _).symm))
    exact PA.newList R (rep_ints a1) hn hk' hl1 q
theorem b_list (hh:A.handled=none) (R:Rep G H s) (rv:RepVs G.X s.heap vs ws) (h:biList vs H=some r) (q:retR r H Q):wpAny (model G.prog G.w) A (call (.type "list") ws) (PV G H s Q) F0 s:=by
  rcases vs with uu | ⟨v,uu | ⟨v2,vs⟩⟩ <;> try exact noS h
  refine args1 (P:=fun ws=>wpAny (model G.prog G.w) A (call (.type "list") ws) (PV G H s Q) F0 s) rv fun w rw=>?_
  rcases v with ⟨⟩ <;> try exact noS h
  · obtain rfl:=rw
    obtain ⟨xs,hx,h⟩:=bind_e h
    obtain ⟨hlen,rfl⟩:=ite_e h
    obtain ⟨items,n,l1,l2,l3⟩:=R.list' (listAt_e hx)
    exact call_list_seq _ (.inl rfl) l1 rfl rfl (fun h' c' hk hl=>PA.newList (t:=s.toks) R l2 (none_size _) hk hl q) (by rw [l3,sizeLine_eq]; exact Nat.le_trans hlen (by decide))
  · rename_i lo hi
    obtain rfl:=Option.some.inj h
    obtain ⟨a,t,u,z,rfl,h1,h2,h3⟩:=rw
    have hn:Builtin.Range.rangeSize lo hi 1=((hi - lo).toNat:Int):=by rw [rangeSize_one]; split <;> omega
    refine call_list_range hh h1 (small_one (by omega) (by omega) (by omega) (by omega)) hn (by omega) fun h' tk acc' c' hk hl hacc=>?_
    refine PA.newList R ?_ (none_size _) hk hl q
    refine RepVs.of_get (by rw [Array.length_toList,hacc.1]; simp [rngL]) fun j V' v e1 e2=>?_
    rw [Array.getElem?_toList] at e2
    obtain ⟨t',rfl⟩:=hacc.2 j v e2
    have hj:j<(hi - lo).toNat:=hacc.1 ▸ (Array.getElem?_eq_some_iff.mp e2).1
    rw [rngL,List.getElem?_map,List.getElem?_range hj] at e1
    obtain rfl:=Option.some.inj e1
    exact ⟨t',by rw [Int.mul_one]⟩
theorem b_dict (gk:GOK G) (R:Rep G H s) (rv:RepVs G.X s.heap vs ws) (h:biDict vs H=some r) (q:retR r H Q):wpAny (model G.prog G.w) A (call (.type "dict") ws) (PV G H s Q) F0 s:=by
  obtain ⟨oS,hs⟩:=gk.sysm
  obtain ⟨a,ha,h'⟩:=bind_e h
  clear h
  have h:=h'
  clear h'
  obtain rfl:=ref1_e ha
  refine args1 (P:=fun ws=>wpAny (model G.prog G.w) A (call (.type "dict") ws) (PV G H s Q) F0 s) rv fun w rw=>?_
  obtain rfl:=rw
  have hk:∀ {h':Heap},Heap.SameBut s.heap.objs.size (s.heap.push { cls:=.type "dict",data:=.dict #[] }) h'->∀ b o,s.heap.get? b=some o->h'.get? b=some o:=fun e2 b o e=>(e2.2 b (Nat.ne_of_lt (Heap.lt_size e))).trans (Heap.get?_push_of_some _ e)
  have fin:∀ {h':Heap} {o:AO},Heap.SameBut s.heap.objs.size (s.heap.push { cls:=.type "dict",data:=.dict #[] }) h'->RepO G h' s.heap.objs.size o->retR (.new o) H Q->PV G H s Q (.ref s.heap.objs.size) { s with heap:=h' }:=fun e2 e' q=>
    ⟨.ref _,_,StepX.new s.toks (none_size _) (hk e2),R.new s.toks (none_size _) (hk e2) e',rfl,q _ (R.fresh (none_size _))⟩
  rcases hH:H a with uu | ⟨⟨⟩⟩ <;> rw [hH] at h <;> try exact noS h
  · obtain ⟨hlen,rfl⟩:=ite_e h
    obtain ⟨cvs,d1,d2,d3⟩:=R.own _ _ hH
    refine kt_call_dict (knd:=intKind G.prog G.w) (R.notSys hs hH) d1 (by rw [map_len d2,sizeLine_eq]; exact Nat.le_trans hlen (by decide)) fun h' e1 e2=>fin (o:=.di false _) e2 ?_ q
    exact ⟨cvs,e1,d2,d3.mono fun b o e uu uu=>hk e2 b o e⟩
  · obtain ⟨hlen,rfl⟩:=ite_e h
    obtain ⟨cvs,d1,d2,d3⟩:=R.own _ _ hH
    refine kt_call_dict (knd:=PySem.strKind G.prog G.w) (R.notSys hs hH) d1 (by rw [map_len d2,sizeLine_eq]; exact Nat.le_trans hlen (by decide)) fun h' e1 e2=>fin (o:=.ds false _) e2 ?_ q
    exact ⟨cvs,e1,d2,d3.mono fun b o e uu uu=>hk e2 b o e⟩
theorem b_sum (hh:A.handled=none) (R:Rep G H s) (rv:RepVs G.X s.heap vs ws) (h:biSum vs H=some r) (q:retR r H Q):wpAny (model G.prog G.w) A (call (.builtin "sum") ws) (PV G H s Q) F0 s:=by
  obtain ⟨a,ha,h⟩:=bind_e h
  obtain ⟨xs,hx,h⟩:=bind_e h
  obtain ⟨is,his,h⟩:=bind_e h
  obtain ⟨hb,rfl⟩:=ite_e h
  obtain rfl:=ref1_e ha
  refine args1 (P:=fun ws=>wpAny (model G.prog G.w) A (call (.builtin "sum") ws) (PV G H s Q) F0 s) rv fun w rw=>?_
  obtain rfl:=rw
  obtain ⟨items,n,l1,l2⟩:=R.list (listAt_e hx)
  have hI:=ints_of his l2
  have hfit:PySem.SumFits is:=sumFits_of hb.1 hb.2
  rw [<- hI.numsOf] at q hfit
  obtain ⟨xs',hx'⟩:=hI.allInts.items
  obtain rfl:items=intItems xs':=by simpa using hx'
  rw [nums_intItems] at hfit q
  refine sum_intList hh l1.isList (fun j hj=>?_) fun h' tk t' hk=>?_
  · rw [numAt_eq,preSum_eq]; exact hfit j (by simpa using hj)
  · have e:preSum (numAt xs') xs'.size=(xs'.toList.map (·.1)).sum:=by rw [preSum_eq,List.take_of_length_le (by simp)]
    rw [e]
    exact ⟨.int _,H,StepX.grow _ hk,R.grow _ hk,rInt,q⟩
end
theorem bi_call (gk:GOK G) {s:Shared} {A:Around} (Rm:Room k A) (R:Rep G H s) {f:String} {vs:List V} {ws:List Value} (rv:RepVs G.X s.heap vs ws) {r:Rs} (h:biF f vs H=some r) {Q:V->AH->Prop} (q:retR r H Q) :
    wpAny (model G.prog G.w) A (call (if f = "range" \/ f = "list" \/ f = "dict" then .type f else .builtin f) ws) (PV G H s Q) F0 s:=by
  have hh:=Rm.hn
  unfold biF at h
  by_cases hf:f = "len"
  · rw [if_pos hf] at h; subst hf; rw [if_neg (by decide)]; exact b_len R rv h q
  rw [if_neg hf] at h; clear hf
  by_cases hf:f = "range"
  · rw [if_pos hf] at h; subst hf; rw [if_pos (by decide)]; exact b_range R rv h q
  rw [if_neg hf] at h; clear hf
  by_cases hf:f = "sorted"
  · rw [if_pos hf] at h; subst hf; rw [if_neg (by decide)]; exact b_sorted gk hh R rv h q
  rw [if_neg hf] at h; clear hf
  by_cases hf:f = "list"
  · rw [if_pos hf] at h; subst hf; rw [if_pos (by decide)]; exact b_list hh R rv h q
  rw [if_neg hf] at h; clear hf
  by_cases hf:f = "dict"
  · rw [if_pos hf] at h; subst hf; rw [if_pos (by decide)]; exact b_dict gk R rv h q
  rw [if_neg hf] at h; clear hf
  by_cases hf:f = "max"
  · rw [if_pos hf] at h; subst hf; rw [if_neg (by decide)]
    obtain ⟨p,hp,rfl⟩:=Option.map_eq_some_iff.mp h
    rw [int2_e hp] at rv
    refine args2 (P:=fun ws=>wpAny (model G.prog G.w) A (call (.builtin "max") ws) (PV G H s Q) F0 s) rv fun w z rw rz=>?_
    obtain ⟨t,rfl⟩:=rw; obtain ⟨u,rfl⟩:=rz
    exact max_two_ints hh fun h' tk hk=>⟨_,H,StepX.grow _ hk,R.grow _ hk,by split <;> exact rInt,q⟩
  rw [if_neg hf] at h; clear hf
  by_cases hf:f = "min"
  · rw [if_pos hf] at h; subst hf; rw [if_neg (by decide)]
    obtain ⟨p,hp,rfl⟩:=Option.map_eq_some_iff.mp h
    rw [int2_e hp] at rv
    refine args2 (P:=fun ws=>wpAny (model G.prog G.w) A (call (.builtin "min") ws) (PV G H s Q) F0 s) rv fun w z rw rz=>?_
    obtain ⟨t,rfl⟩:=rw; obtain ⟨u,rfl⟩:=rz
    exact min_two_ints hh fun h' tk hk=>⟨_,H,StepX.grow _ hk,R.grow _ hk,by split <;> exact rInt,q⟩
  rw [if_neg hf] at h; clear hf
  obtain ⟨hf,h⟩:=Option.ite_none_right_eq_some.mp h
  subst hf; rw [if_neg (by decide)]; exact b_sum hh R rv h q
end
end Mine
end
section
open PySem PySem.W PyProof.Rows PySem.SeqAt
set_option maxRecDepth 100000
namespace Mine
noncomputable abbrev PE:=PySem.Expr
noncomputable def nmOk (fi:FI) (i:Nat) (x:Str):Bool:=match fi[i]? with
  | some (y,k)=>y == x && (k == .local || k == .cell) && !(x == ("__debug__" : Str))
  | none=>false
noncomputable def isG (fi:FI) (x:Str):Bool:=fi.lookup x == some .globalImplicit && !(x == ("__debug__" : Str))
noncomputable def fnNames:List String:=(fnsL.map (·.1)).filter (· ≠ "__init__")
noncomputable def notSlice (e:PE):Bool:=by cases e with | Slice a b c d=>exact false | Starred a b=>exact false | _=>exact true
noncomputable def notSet (e:PE):Bool:=by cases e with | Set a b c=>exact false | _=>exact true
noncomputable def notStar (e:PE):Bool:=by cases e with | Starred a b=>exact false | _=>exact true
noncomputable def baseOk (e:PE):Bool:=by cases e with | Call a b c d=>exact false | _=>exact true
noncomputable def relab (fi:FI) (names:FI):FI:=names.map fun (n,k)=>if k == .free && fi.lookup n == some .cell then (n,.cell) else (n,k)
noncomputable def frOk1 (fi:FI) (p:Str × NameKind):Option Nat->Bool
  | some i=>p.2 == .free && fi[i]? == some (p.1,.cell)
  | none=>p.2 == .local || p.2 == .globalImplicit
noncomputable def frOk (fi:FI):List (Option Nat)->FI->Bool
  | [],r=>r.isEmpty
  | a::fr,r=>match r with
    | []=>false
    | p::r=>frOk1 fi p a && frOk fi fr r
noncomputable def nodupB (fi:FI):Bool:=decide ((fi.map (·.1)).Nodup)
noncomputable def asName:PE->Option (Str × Pos):=vw (mk:=fun t:Str × Pos=>Expr.Name t.1 t.2) (i:=23) Expr.ctorIdx fun e h=>Expr.Name.elim (motive_1:=fun e=>Vw (fun t:Str × Pos=>Expr.Name t.1 t.2) e) e h fun x p=>⟨(x,p),rfl⟩
theorem asName_b (e:PE):e=bk (fun t:Str × Pos=>Expr.Name t.1 t.2) (asName e) e:=vw_b
noncomputable def asConst:PE->Option (Const × Nat × Pos):=vw (mk:=fun t:Const × Nat × Pos=>Expr.Constant t.1 t.2.1 t.2.2) (i:=19) Expr.ctorIdx fun e h=>Expr.Constant.elim (motive_1:=fun e=>Vw (fun t:Const × Nat × Pos=>Expr.Constant t.1 t.2.1 t.2.2) e) e h fun c n p=>⟨(c,n,p),rfl⟩
theorem asConst_b (e:PE):e=bk (fun t:Const × Nat × Pos=>Expr.Constant t.1 t.2.1 t.2.2) (asConst e) e:=vw_b
noncomputable def asBin:PE->Option (PE × Operator × PE × Pos):=vw (mk:=fun t:PE × Operator × PE × Pos=>Expr.BinOp t.1 t.2.1 t.2.2.1 t.2.2.2) (i:=2) Expr.ctorIdx fun e h=>Expr.BinOp.elim (motive_1:=fun e=>Vw (fun t:PE × Operator × PE × Pos=>Expr.BinOp t.1 t.2.1 t.2.2.1 t.2.2.2) e) e h fun l o r p=>⟨(l,o,r,p),rfl⟩
theorem asBin_b (e:PE):e=bk (fun t:PE × Operator × PE × Pos=>Expr.BinOp t.1 t.2.1 t.2.2.1 t.2.2.2) (asBin e) e:=vw_b
noncomputable def asUn:PE->Option (UnaryOp × PE × Pos):=vw (mk:=fun t:UnaryOp × PE × Pos=>Expr.UnaryOp t.1 t.2.1 t.2.2) (i:=3) Expr.ctorIdx fun e h=>Expr.UnaryOp.elim (motive_1:=fun e=>Vw (fun t:UnaryOp × PE × Pos=>Expr.UnaryOp t.1 t.2.1 t.2.2) e) e h fun o x p=>⟨(o,x,p),rfl⟩
theorem asUn_b (e:PE):e=bk (fun t:UnaryOp × PE × Pos=>Expr.UnaryOp t.1 t.2.1 t.2.2) (asUn e) e:=vw_b
noncomputable def asBool:PE->Option (BoolOp × List PE × Pos):=vw (mk:=fun t:BoolOp × List PE × Pos=>Expr.BoolOp t.1 t.2.1 t.2.2) (i:=0) Expr.ctorIdx fun e h=>Expr.BoolOp.elim (motive_1:=fun e=>Vw (fun t:BoolOp × List PE × Pos=>Expr.BoolOp t.1 t.2.1 t.2.2) e) e h fun o v p=>⟨(o,v,p),rfl⟩
theorem asBool_b (e:PE):e=bk (fun t:BoolOp × List PE × Pos=>Expr.BoolOp t.1 t.2.1 t.2.2) (asBool e) e:=vw_b
noncomputable def asCmp:PE->Option (PE × List CmpOp × List PE × Pos):=vw (mk:=fun t:PE × List CmpOp × List PE × Pos=>Expr.Compare t.1 t.2.1 t.2.2.1 t.2.2.2) (i:=15) Expr.ctorIdx fun e h=>Expr.Compare.elim (motive_1:=fun e=>Vw (fun t:PE × List CmpOp × List PE × Pos=>Expr.Compare t.1 t.2.1 t.2.2.1 t.2.2.2) e) e h fun l o r p=>⟨(l,o,r,p),rfl⟩
theorem asCmp_b (e:PE):e=bk (fun t:PE × List CmpOp × List PE × Pos=>Expr.Compare t.1 t.2.1 t.2.2.1 t.2.2.2) (asCmp e) e:=vw_b
noncomputable def asIf:PE->Option (PE × PE × PE × Pos):=vw (mk:=fun t:PE × PE × PE × Pos=>Expr.IfExp t.1 t.2.1 t.2.2.1 t.2.2.2) (i:=5) Expr.ctorIdx fun e h=>Expr.IfExp.elim (motive_1:=fun e=>Vw (fun t:PE × PE × PE × Pos=>Expr.IfExp t.1 t.2.1 t.2.2.1 t.2.2.2) e) e h fun a b c p=>⟨(a,b,c,p),rfl⟩
theorem asIf_b (e:PE):e=bk (fun t:PE × PE × PE × Pos=>Expr.IfExp t.1 t.2.1 t.2.2.1 t.2.2.2) (asIf e) e:=vw_b
noncomputable def asCall:PE->Option (PE × List PE × List Keyword × Pos):=vw (mk:=fun t:PE × List PE × List Keyword × Pos=>Expr.Call t.1 t.2.1 t.2.2.1 t.2.2.2) (i:=16) Expr.ctorIdx fun e h=>Expr.Call.elim (motive_1:=fun e=>Vw (fun t:PE × List PE × List Keyword × Pos=>Expr.Call t.1 t.2.1 t.2.2.1 t.2.2.2) e) e h fun f a k p=>⟨(f,a,k,p),rfl⟩
theorem asCall_b (e:PE):e=bk (fun t:PE × List PE × List Keyword × Pos=>Expr.Call t.1 t.2.1 t.2.2.1 t.2.2.2) (asCall e) e:=vw_b
noncomputable def asAttr:PE->Option (PE × Str × Pos):=vw (mk:=fun t:PE × Str × Pos=>Expr.Attribute t.1 t.2.1 t.2.2) (i:=20) Expr.ctorIdx fun e h=>Expr.Attribute.elim (motive_1:=fun e=>Vw (fun t:PE × Str × Pos=>Expr.Attribute t.1 t.2.1 t.2.2) e) e h fun v n p=>⟨(v,n,p),rfl⟩
theorem asAttr_b (e:PE):e=bk (fun t:PE × Str × Pos=>Expr.Attribute t.1 t.2.1 t.2.2) (asAttr e) e:=vw_b
noncomputable def asSub:PE->Option (PE × PE × Pos):=vw (mk:=fun t:PE × PE × Pos=>Expr.Subscript t.1 t.2.1 t.2.2) (i:=21) Expr.ctorIdx fun e h=>Expr.Subscript.elim (motive_1:=fun e=>Vw (fun t:PE × PE × Pos=>Expr.Subscript t.1 t.2.1 t.2.2) e) e h fun v i p=>⟨(v,i,p),rfl⟩
theorem asSub_b (e:PE):e=bk (fun t:PE × PE × Pos=>Expr.Subscript t.1 t.2.1 t.2.2) (asSub e) e:=vw_b
noncomputable def asSlice:PE->Option (Option PE × Option PE × Option PE × Pos):=vw (mk:=fun t:Option PE × Option PE × Option PE × Pos=>Expr.Slice t.1 t.2.1 t.2.2.1 t.2.2.2) (i:=26) Expr.ctorIdx fun e h=>Expr.Slice.elim (motive_1:=fun e=>Vw (fun t:Option PE × Option PE × Option PE × Pos=>Expr.Slice t.1 t.2.1 t.2.2.1 t.2.2.2) e) e h fun a b c p=>⟨(a,b,c,p),rfl⟩
theorem asSlice_b (e:PE):e=bk (fun t:Option PE × Option PE × Option PE × Pos=>Expr.Slice t.1 t.2.1 t.2.2.1 t.2.2.2) (asSlice e) e:=vw_b
noncomputable def asList:PE->Option (List PE × Pos):=vw (mk:=fun t:List PE × Pos=>Expr.List t.1 t.2) (i:=24) Expr.ctorIdx fun e h=>Expr.List.elim (motive_1:=fun e=>Vw (fun t:List PE × Pos=>Expr.List t.1 t.2) e) e h fun xs p=>⟨(xs,p),rfl⟩
theorem asList_b (e:PE):e=bk (fun t:List PE × Pos=>Expr.List t.1 t.2) (asList e) e:=vw_b
noncomputable def asTup:PE->Option (List PE × Nat × Pos):=vw (mk:=fun t:List PE × Nat × Pos=>Expr.Tuple t.1 t.2.1 t.2.2) (i:=25) Expr.ctorIdx fun e h=>Expr.Tuple.elim (motive_1:=fun e=>Vw (fun t:List PE × Nat × Pos=>Expr.Tuple t.1 t.2.1 t.2.2) e) e h fun xs n p=>⟨(xs,n,p),rfl⟩
theorem asTup_b (e:PE):e=bk (fun t:List PE × Nat × Pos=>Expr.Tuple t.1 t.2.1 t.2.2) (asTup e) e:=vw_b
noncomputable def asDict:PE->Option (List (Option PE) × List PE × Pos):=vw (mk:=fun t:List (Option PE) × List PE × Pos=>Expr.Dict t.1 t.2.1 t.2.2) (i:=6) Expr.ctorIdx fun e h=>Expr.Dict.elim (motive_1:=fun e=>Vw (fun t:List (Option PE) × List PE × Pos=>Expr.Dict t.1 t.2.1 t.2.2) e) e h fun k v p=>⟨(k,v,p),rfl⟩
theorem asDict_b (e:PE):e=bk (fun t:List (Option PE) × List PE × Pos=>Expr.Dict t.1 t.2.1 t.2.2) (asDict e) e:=vw_b
noncomputable def asLC:PE->Option (PE × List Comprehension × Scope × Pos):=vw (mk:=fun t:PE × List Comprehension × Scope × Pos=>Expr.ListComp t.1 t.2.1 t.2.2.1 t.2.2.2) (i:=8) Expr.ctorIdx fun e h=>Expr.ListComp.elim (motive_1:=fun e=>Vw (fun t:PE × List Comprehension × Scope × Pos=>Expr.ListComp t.1 t.2.1 t.2.2.1 t.2.2.2) e) e h fun e g s p=>⟨(e,g,s,p),rfl⟩
theorem asLC_b (e:PE):e=bk (fun t:PE × List Comprehension × Scope × Pos=>Expr.ListComp t.1 t.2.1 t.2.2.1 t.2.2.2) (asLC e) e:=vw_b
noncomputable def asDC:PE->Option (PE × PE × List Comprehension × Scope × Pos):=vw (mk:=fun t:PE × PE × List Comprehension × Scope × Pos=>Expr.DictComp t.1 t.2.1 t.2.2.1 t.2.2.2.1 t.2.2.2.2) (i:=10) Expr.ctorIdx fun e h=>Expr.DictComp.elim (motive_1:=fun e=>Vw (fun t:PE × PE × List Comprehension × Scope × Pos=>Expr.DictComp t.1 t.2.1 t.2.2.1 t.2.2.2.1 t.2.2.2.2) e) e h fun k v g s p=>⟨(k,v,g,s,p),rfl⟩
theorem asDC_b (e:PE):e=bk (fun t:PE × PE × List Comprehension × Scope × Pos=>Expr.DictComp t.1 t.2.1 t.2.2.1 t.2.2.2.1 t.2.2.2.2) (asDC e) e:=vw_b
theorem as_e {β α:Type} {mk:α->β} {as:β->Option α} (hb:∀ e,e=bk mk (as e) e) {f:α->Bool} {e:β} {P:β->Prop} (h:(as e).any f=true) (k:∀ a,f a=true->P (mk a)):P e:=by
  have q:=hb e
  revert q h
  rcases as e with uu | a
  · exact fun h uu=>absurd h Bool.false_ne_true
  · exact fun h q=>q ▸ k a h
noncomputable def asS:Stmt->Option (List PE × PE × Pos):=vw (mk:=fun t:List PE × PE × Pos=>Stmt.Assign t.1 t.2.1 t.2.2) (i:=5) Stmt.ctorIdx fun e h=>Stmt.Assign.elim (motive_2:=fun e=>Vw (fun t:List PE × PE × Pos=>Stmt.Assign t.1 t.2.1 t.2.2) e) e h fun t v p=>⟨(t,v,p),rfl⟩
theorem asS_b (e:Stmt):e=bk (fun t:List PE × PE × Pos=>Stmt.Assign t.1 t.2.1 t.2.2) (asS e) e:=vw_b
noncomputable def asAug:Stmt->Option (PE × Operator × PE × Pos):=vw (mk:=fun t:PE × Operator × PE × Pos=>Stmt.AugAssign t.1 t.2.1 t.2.2.1 t.2.2.2) (i:=7) Stmt.ctorIdx fun e h=>Stmt.AugAssign.elim (motive_2:=fun e=>Vw (fun t:PE × Operator × PE × Pos=>Stmt.AugAssign t.1 t.2.1 t.2.2.1 t.2.2.2) e) e h fun t o v p=>⟨(t,o,v,p),rfl⟩
theorem asAug_b (e:Stmt):e=bk (fun t:PE × Operator × PE × Pos=>Stmt.AugAssign t.1 t.2.1 t.2.2.1 t.2.2.2) (asAug e) e:=vw_b
noncomputable def asExpr:Stmt->Option (PE × Pos):=vw (mk:=fun t:PE × Pos=>Stmt.Expr t.1 t.2) (i:=24) Stmt.ctorIdx fun e h=>Stmt.Expr.elim (motive_2:=fun e=>Vw (fun t:PE × Pos=>Stmt.Expr t.1 t.2) e) e h fun v p=>⟨(v,p),rfl⟩
theorem asExpr_b (e:Stmt):e=bk (fun t:PE × Pos=>Stmt.Expr t.1 t.2) (asExpr e) e:=vw_b
noncomputable def asRet:Stmt->Option (Option PE × Pos):=vw (mk:=fun t:Option PE × Pos=>Stmt.Return t.1 t.2) (i:=3) Stmt.ctorIdx fun e h=>Stmt.Return.elim (motive_2:=fun e=>Vw (fun t:Option PE × Pos=>Stmt.Return t.1 t.2) e) e h fun v p=>⟨(v,p),rfl⟩
theorem asRet_b (e:Stmt):e=bk (fun t:Option PE × Pos=>Stmt.Return t.1 t.2) (asRet e) e:=vw_b
noncomputable def asIfS:Stmt->Option (PE × List Stmt × List Stmt × Pos):=vw (mk:=fun t:PE × List Stmt × List Stmt × Pos=>Stmt.If t.1 t.2.1 t.2.2.1 t.2.2.2) (i:=12) Stmt.ctorIdx fun e h=>Stmt.If.elim (motive_2:=fun e=>Vw (fun t:PE × List Stmt × List Stmt × Pos=>Stmt.If t.1 t.2.1 t.2.2.1 t.2.2.2) e) e h fun t a b p=>⟨(t,a,b,p),rfl⟩
theorem asIfS_b (e:Stmt):e=bk (fun t:PE × List Stmt × List Stmt × Pos=>Stmt.If t.1 t.2.1 t.2.2.1 t.2.2.2) (asIfS e) e:=vw_b
noncomputable def asWhile:Stmt->Option (PE × List Stmt × List Stmt × Pos):=vw (mk:=fun t:PE × List Stmt × List Stmt × Pos=>Stmt.While t.1 t.2.1 t.2.2.1 t.2.2.2) (i:=11) Stmt.ctorIdx fun e h=>Stmt.While.elim (motive_2:=fun e=>Vw (fun t:PE × List Stmt × List Stmt × Pos=>Stmt.While t.1 t.2.1 t.2.2.1 t.2.2.2) e) e h fun t a b p=>⟨(t,a,b,p),rfl⟩
theorem asWhile_b (e:Stmt):e=bk (fun t:PE × List Stmt × List Stmt × Pos=>Stmt.While t.1 t.2.1 t.2.2.1 t.2.2.2) (asWhile e) e:=vw_b
noncomputable def asFor:Stmt->Option (PE × PE × List Stmt × List Stmt × Pos):=vw (mk:=fun t:PE × PE × List Stmt × List Stmt × Pos=>Stmt.For t.1 t.2.1 t.2.2.1 t.2.2.2.1 t.2.2.2.2) (i:=9) Stmt.ctorIdx fun e h=>Stmt.For.elim (motive_2:=fun e=>Vw (fun t:PE × PE × List Stmt × List Stmt × Pos=>Stmt.For t.1 t.2.1 t.2.2.1 t.2.2.2.1 t.2.2.2.2) e) e h fun t i a b p=>⟨(t,i,a,b,p),rfl⟩
theorem asFor_b (e:Stmt):e=bk (fun t:PE × PE × List Stmt × List Stmt × Pos=>Stmt.For t.1 t.2.1 t.2.2.1 t.2.2.2.1 t.2.2.2.2) (asFor e) e:=vw_b
noncomputable def tgtsOk (fi:FI):List Nat->List PE->Bool
  | [],es=>es.isEmpty
  | i::is,es=>match es with
    | []=>false
    | e::r=>(asName e).any (fun t=>nmOk fi i t.1) && tgtsOk fi is r
noncomputable def tgtOk (fi:FI) (t:Tgt) (e:PE):Bool:=match t with
  | .one i=>(asName e).any fun t=>nmOk fi i t.1
  | .many is=>(asTup e).any fun t=>tgtsOk fi is t.1
noncomputable def isMany:Tgt->Bool
  | .many _=>true
  | _=>false
noncomputable def opsOk:List COp->List CmpOp->Bool
  | [],[]=>true
  | a::r,b::t=>cmpOk a b && opsOk r t
  | _,_=>false
noncomputable def compOk (fi:FI) (fr:List (Option Nat)) (tg:Tgt) (target:PE) (scope:Scope):Bool :=
  match tg with
  | .one i=>(asName target).any fun t=>frOk fi fr scope.names && nodupB scope.names && scope.kind == .function && (scope.names[i]? == some (t.1,NameKind.local)) && !(t.1 == ("__debug__" : Str))
  | .many _=>false
theorem compOk_e {fi:FI} {fr:List (Option Nat)} {i:Nat} {target:PE} {scope:Scope} {P:PE->Prop} (h:compOk fi fr (.one i) target scope=true)
    (k:∀ x px,frOk fi fr scope.names=true->nodupB scope.names=true->scope.kind = .function->scope.names[i]? = some (x,NameKind.local)->P (.Name x px)):P target :=
  as_e asName_b h fun a h=>by
    have h:=(Bool.and_eq_true_iff.mp h).1
    have h2:=Bool.and_eq_true_iff.mp h
    have h3:=Bool.and_eq_true_iff.mp h2.1
    have h4:=Bool.and_eq_true_iff.mp h3.1
    exact k a.1 a.2 h4.1 h4.2 (beq_iff_eq.mp h3.2) (beq_iff_eq.mp h2.2)
noncomputable def genOk (f:PE->PE->List PE->Bool):List Comprehension->Bool
  | []=>false
  | g::r=>r.isEmpty && g.is_async == 0 && f g.target g.iter g.ifs
noncomputable def isInt (i:Int):Const->Bool
  | .int j=>i == j
  | _=>false
noncomputable def isStrC (x:String):Const->Bool
  | .str y=>y == Str.ofString x
  | _=>false
noncomputable def isBoolC (b:Bool):Const->Bool
  | .bool c=>b == c
  | _=>false
noncomputable def isNoneC:Const->Bool
  | .none=>true
  | _=>false
noncomputable def keysOk:List String->List (Option PE)->Bool
  | [],es=>es.isEmpty
  | x::xs,es=>match es with
    | []=>false
    | e::r=>e.any (fun e=>(asConst e).any fun c=>isStrC x c.1) && keysOk xs r
mutual
noncomputable def chkE (fi:FI):ME->PE->Bool
  | .var i,e=>(asName e).any fun t=>nmOk fi i t.1
  | .int i,e=>(asConst e).any fun t=>isInt i t.1
  | .str x,e=>(asConst e).any fun t=>isStrC x t.1
  | .bool b,e=>(asConst e).any fun t=>isBoolC b t.1
  | .none,e=>(asConst e).any fun t=>isNoneC t.1
  | .glob x i,e=>(asName e).any fun t=>t.1 == Str.ofString x && isG fi t.1 && globTab.contains (x,i)
  | .bin op a b,e=>(asBin e).any fun t=>opOk op t.2.1 && chkE fi a t.1 && chkE fi b t.2.2.1
  | .neg a,e=>(asUn e).any fun t=>t.1 == .USub && chkE fi a t.2.1
  | .inv a,e=>(asUn e).any fun t=>t.1 == .Invert && chkE fi a t.2.1
  | .not a,e=>(asUn e).any fun t=>t.1 == .Not && chkE fi a t.2.1
  | .and es,e=>(asBool e).any fun t=>t.1 == .And && chkEs fi es t.2.1
  | .or es,e=>(asBool e).any fun t=>t.1 == .Or && chkEs fi es t.2.1
  | .cmp a ops es,e=>(asCmp e).any fun t=>chkE fi a t.1 && opsOk ops t.2.1 && chkEs fi es t.2.2.1 && !lastMarks t.2.1 t.2.2.1
  | .ite t a b,e=>(asIf e).any fun u=>chkE fi t u.1 && chkE fi a u.2.1 && chkE fi b u.2.2.1
  | .call f args,e=>(asCall e).any fun t=>t.2.2.1.isEmpty && (asName t.1).any (fun y=>y.1 == Str.ofString f && isG fi y.1) && fnNames.contains f && chkEs fi args t.2.1
  | .new args,e=>(asCall e).any fun t=>t.2.2.1.isEmpty && (asName t.1).any (fun y=>y.1 == Str.ofString "ObjectFile" && isG fi y.1) && !t.2.1.isEmpty && chkEs fi args t.2.1
  | .bi f args,e=>(asCall e).any fun t=>t.2.2.1.isEmpty && (asName t.1).any (fun y=>y.1 == Str.ofString f && isG fi y.1) && biNames.contains f && chkEs fi args t.2.1
  | .meth o m args,e=>(asCall e).any fun t=>t.2.2.1.isEmpty && (asAttr t.1).any (fun u=>u.2.1 == Str.ofString m && baseOk u.1 && u.2.2.endLine == t.2.2.2.line && chkE fi o u.1) && decide (t.2.1.length<20) && (methT m).isSome && chkEs fi args t.2.1
  | .attr o n,e=>(asAttr e).any fun t=>t.2.1 == Str.ofString n && baseOk t.1 && attrNames.contains n && chkE fi o t.1
  | .sub o i,e=>(asSub e).any fun t=>notSlice t.2.1 && chkE fi o t.1 && chkE fi i t.2.1
  | .sliceTo o hi,e=>(asSub e).any fun t=>chkE fi o t.1 && (asSlice t.2.1).any fun u=>u.1.isNone && u.2.2.1.isNone && u.2.1.any fun h=>chkE fi hi h
  | .list es,e=>(asList e).any fun t=>decide (t.1.length<=1000) && chkEs fi es t.1
  | .tup es,e=>(asTup e).any fun t=>decide (t.1.length<=1000) && chkEs fi es t.1
  | .dict ks vs,e=>(asDict e).any fun t=>keysOk ks t.1 && decide ks.Nodup && decide (t.1.length=t.2.1.length) && decide (t.1.length<=15) && chkEs fi vs t.2.1
  | .comp fr tg it ifs elt,e=>(asLC e).any fun t=>genOk (fun tt i c=>compOk fi fr tg tt t.2.2.1 && notSet i && chkE fi it i && chkEs (relab fi t.2.2.1.names) ifs c && chkE (relab fi t.2.2.1.names) elt t.1) t.2.1
  | .dcomp fr tg it k v,e=>(asDC e).any fun t=>genOk (fun tt i c=>c.isEmpty && compOk fi fr tg tt t.2.2.2.1 && notSet i && chkE fi it i && chkE (relab fi t.2.2.2.1.names) k t.1 && chkE (relab fi t.2.2.2.1.names) v t.2.1) t.2.2.1
noncomputable def chkEs (fi:FI):List ME->List PE->Bool
  | [],es=>es.isEmpty
  | m::ms,es=>match es with
    | []=>false
    | e::r=>notStar e && chkE fi m e && chkEs fi ms r
end
noncomputable def isComp (e:PE):Bool:=by cases e with | ListComp a b c d=>exact true | SetComp a b c d=>exact true | DictComp a b c d f=>exact true | _=>exact false
noncomputable def compSc (e:PE):FI:=((asLC e).map fun t=>t.2.2.1.names).getD []
noncomputable def swapOk (fi:FI) (x:Str) (p:Pos) (v:PE):Bool :=
  fi.lookup x == some .local && p.line == v.pos.line && !((compSc v).any fun (n,k)=>n == x && (k == .local || k == .cell))
noncomputable def isListComp (e:PE):Bool:=(asLC e).isSome
noncomputable def chkT (fi:FI):MT->PE->Bool
  | .var i,e=>(asName e).any fun t=>nmOk fi i t.1
  | .sub o i,e=>(asSub e).any fun t=>notSlice t.2.1 && chkE fi o t.1 && chkE fi i t.2.1
noncomputable def chkTs (fi:FI):List MT->List PE->Bool
  | [],es=>es.isEmpty
  | t::ts,es=>match es with
    | []=>false
    | e::r=>chkT fi t e && chkTs fi ts r
noncomputable def locNames (fi:FI) (line:Nat):List PE->Option (List Str)
  | []=>some []
  | e::r=>match asName e with
    | some t=>if fi.lookup t.1 == some .local && t.2.line == line then (locNames fi line r).map (t.1 :: ·) else none
    | none=>none
noncomputable def isStar (e:PE):Bool:=!notStar e
noncomputable def lineOf:List PE->Nat
  | t::_=>t.pos.line
  | []=>0
noncomputable def swap2Ok (fi:FI) (ts:List PE) (v:PE):Bool:=match asTup v with
  | some (vs,_,_)=>(ts.length == 2 || ts.length == 3) && vs.length == ts.length && !(vs.any isStar) && !(vs.all (foldedForSure 8)) && !(vs.all (constantsAlone 8)) &&
      (match locNames fi (lineOf ts) ts with
        | some ns=>ns.eraseDups.length == ns.length && decide ns.Nodup
        | none=>false)
  | none=>true
noncomputable def one1 (f:PE->Bool):List PE->Bool
  | []=>false
  | t::r=>r.isEmpty && f t
mutual
noncomputable def chkS (fi:FI):MS->Stmt->Bool
  | .assign i e,s=>(asS s).any fun u=>one1 (fun t=>(asName t).any fun n=>nmOk fi i n.1 && chkE fi e u.2.1 && (if isComp u.2.1 then isListComp u.2.1 && swapOk fi n.1 n.2 u.2.1 && u.2.1.pos.line == n.2.line else true)) u.1
  | .setAttr o n e,s=>(asS s).any fun u=>one1 (fun t=>(asAttr t).any fun a=>a.2.1 == Str.ofString n && attrNames.contains n && chkE fi o a.1 && chkE fi e u.2.1 && !isComp u.2.1) u.1
  | .setSub o i e,s=>(asS s).any fun u=>one1 (fun t=>(asSub t).any fun a=>notSlice a.2.1 && chkE fi o a.1 && chkE fi i a.2.1 && chkE fi e u.2.1 && !isComp u.2.1) u.1
  | .unpack ts e,s=>(asS s).any fun u=>one1 (fun t=>(asTup t).any fun a=>chkTs fi ts a.1 && chkE fi e u.2.1 && !isComp u.2.1 && swap2Ok fi a.1 u.2.1) u.1
  | .aug i e,s=>(asAug s).any fun u=>u.2.1 == .Add && (asName u.1).any fun n=>nmOk fi i n.1 && chkE fi e u.2.2.1
  | .augSub o i e,s=>(asAug s).any fun u=>u.2.1 == .Add && (asSub u.1).any fun a=>notSlice a.2.1 && chkE fi o a.1 && chkE fi i a.2.1 && chkE fi e u.2.2.1
  | .expr e,s=>(asExpr s).any fun u=>chkE fi e u.1 && !isComp u.1
  | .ret e,s=>(asRet s).any fun u=>u.1.any fun v=>chkE fi e v
  | .ite t a b,s=>(asIfS s).any fun u=>chkE fi t u.1 && chkSs fi a u.2.1 && chkSs fi b u.2.2.1
  | .while_ t b,s=>(asWhile s).any fun u=>chkE fi t u.1 && u.2.2.1.isEmpty && chkSs fi b u.2.1
  | .for_ tg it b,s=>(asFor s).any fun u=>tgtOk fi tg u.1 && chkE fi it u.2.1 && u.2.2.2.1.isEmpty && chkSs fi b u.2.2.1
  | .forZip tg es b,s=>(asFor s).any fun u=>tgtOk fi tg u.1 && isMany tg && u.2.2.2.1.isEmpty && chkSs fi b u.2.2.1 && (asCall u.2.1).any fun c=>c.2.2.1.isEmpty && (asName c.1).any (fun z=>z.1 == Str.ofString "zip" && isG fi z.1) && chkEs fi es c.2.1
noncomputable def chkSs (fi:FI):List MS->List Stmt->Bool
  | [],ss=>ss.isEmpty
  | m::ms,ss=>match ss with
    | []=>false
    | s::r=>chkS fi m s && chkSs fi ms r
end
noncomputable def firstN:Nat->FI->List Str
  | 0,_=>[]
  | _+1,[]=>[]
  | n+1,(x,_)::r=>x::firstN n r
noncomputable def chkF (fn:Fn) (params:Arguments) (body:List Stmt) (sc:Scope):Bool :=
  chkSs sc.names fn.body body && nodupB sc.names && sc.kind == .function && !sc.isGenerator && !sc.isCoroutine &&
  params.args.length == fn.params && (params.args.map (·.arg)) == firstN fn.params sc.names && decide (fn.params<=fn.nloc) &&
  decide (fn.nloc<=sc.names.length) && (sc.names.take fn.nloc).all (fun p=>p.2 == .local || p.2 == .cell) && (sc.names.drop fn.nloc).all (fun p=>p.2 == .globalImplicit) &&
  params.posonlyargs.isEmpty && params.vararg.isNone && params.kwonlyargs.isEmpty && params.kw_defaults.isEmpty && params.kwarg.isNone && params.defaults.isEmpty
theorem optB {K:Bool->Prop} {P:Prop}:∀ {o:Option (Bool)},(match o with | some r=>K r | none=>False)->(∀ r,o=some r->K r->P)->P
  | some r,q,h=>h r rfl q
  | none,q,_=>q.elim
theorem optR {K:Rs->Prop} {P:Prop}:∀ {o:Option (Rs)},(match o with | some r=>K r | none=>False)->(∀ r,o=some r->K r->P)->P
  | some r,q,h=>h r rfl q
  | none,q,_=>q.elim
theorem optV {K:V->Prop} {P:Prop}:∀ {o:Option (V)},(match o with | some r=>K r | none=>False)->(∀ r,o=some r->K r->P)->P
  | some r,q,h=>h r rfl q
  | none,q,_=>q.elim
theorem optP {K:(V × AH)->Prop} {P:Prop}:∀ {o:Option (V × AH)},(match o with | some r=>K r | none=>False)->(∀ r,o=some r->K r->P)->P
  | some r,q,h=>h r rfl q
  | none,q,_=>q.elim
theorem optH {K:AH->Prop} {P:Prop}:∀ {o:Option (AH)},(match o with | some r=>K r | none=>False)->(∀ r,o=some r->K r->P)->P
  | some r,q,h=>h r rfl q
  | none,q,_=>q.elim
theorem optL {K:List V->Prop} {P:Prop}:∀ {o:Option (List V)},(match o with | some r=>K r | none=>False)->(∀ r,o=some r->K r->P)->P
  | some r,q,h=>h r rfl q
  | none,q,_=>q.elim
theorem optE {K:Env->Prop} {P:Prop}:∀ {o:Option (Env)},(match o with | some r=>K r | none=>False)->(∀ r,o=some r->K r->P)->P
  | some r,q,h=>h r rfl q
  | none,q,_=>q.elim
theorem boolT {c:Bool} {A B:Prop} {P:Prop} (q:match c with | true=>A | false=>B) (h1:c=true->A->P) (h2:c=false->B->P):P:=by
  rcases c with uu | uu
  · exact h2 rfl q
  · exact h1 rfl q
theorem nil_e {α:Type} {l:List α} {P:List α->Prop} (h:l.isEmpty=true) (k:P []):P l:=List.isEmpty_iff.mp h ▸ k
theorem eq_e {α:Type} {a b:α} {P:α->Prop} (h:a=b) (k:P b):P a:=h ▸ k
end Mine
end
section
open PySem PySem.W PyProof.Rows PySem.SeqAt PySem.Calls PySem.Builtin PySem.Builtin.Str
set_option maxRecDepth 100000
namespace Mine
variable {G:GC}
section
variable {k:Nat} {fi:FI} {ρ:Env} {H:AH}
theorem butLast (x:Str) (u:Tok):slicePicked x none (some (-1,u)) none=List.range (x.length - 1):=by
  show strSliceIndices none (some (-1)) 1 x.length=_
  generalize x.length=n
  cases n with
  | zero=>rfl
  | succ n=>
    have e1:((-1:Int)<0):=by decide
    have e2:max (0:Int) (min (-1+((n+1:Nat):Int)) ((n+1:Nat):Int))=n:=by omega
    simp only [strSliceIndices,sliceRange,e1,if_true,e2,show ((1:Int) > 0)=True from by simp]
    have e3:(if (0:Int)<n then ((n:Int) - 0+1 - 1) / 1 else 0).toNat=n:=by
      split <;> simp <;> omega
    rw [e3]
    refine (List.map_congr_left fun k uu=>?_).trans (List.map_id _)
    simp
theorem range_pick (x:Str) (n:Nat) (h:n<=x.length):((List.range n).filterMap (x.cps[·]?))=x.cps.toList.take n:=by
  have:=StrLaws.picks x.cps.toList n 0 (by simpa [Str.length] using h)
  simpa using this
theorem slice_list {s:Shared} {A:Around} {R':Rep G H s} {a:Addr} {items:Array Value} {xs:List V} (l1:s.heap.IsList a items) (l2:RepVs G.X s.heap xs items.toList) {sl:Addr} {i:Int} {u:Tok} (hs:s.heap.IsSliceOf sl .none (.int i u) .none) {r:Rs} (h:takeL i xs=some r) {Q:V->AH->Prop} (q:retR r H Q) :
    SubscriptOn (model G.prog G.w) A (.ref a) (.ref sl) (PV G H s Q) F0 s:=by
  obtain ⟨hb,rfl⟩:=ite_e h
  have l3:items.size=xs.length:=l2.length
  refine ⟨"list",_,slot_list_getitem.lookup,l1.typeIs,wpAny_getItem_list_slice l1 hs .none (.int _ _) .none (by simp) ?_ (by rw [l3,sizeLine_eq]; exact Nat.le_trans hb.2.2 (by decide))⟩
  refine PA.pushList R' ?_ q
  obtain ⟨j,rfl⟩:=Int.eq_ofNat_of_zero_le hb.1
  rw [slicePick_upto']
  exact l2.take j
theorem slice_text (x:String):(Str.mk ((List.range ((Str.ofString x).length - 1)).filterMap ((Str.ofString x).cps[·]?)).toArray)=Str.ofString (String.ofList x.toList.dropLast):=by
  rw [range_pick _ _ (Nat.sub_le _ _),ofString_list,len_ofString,cps_ofString,List.dropLast_eq_take,List.map_take]
theorem slice_sound {s:Shared} {A:Around} (R:Rep G H s) {x y:V} {v w:Value} (rx:RepV G.X s.heap x v) (ry:RepV G.X s.heap y w) {r:Rs} (h:sliceF x y H=some r) {Q:V->AH->Prop} (q:retR r H Q) :
    SubscriptOn (model G.prog G.w) A v (.ref s.heap.objs.size) (PV G H s Q) F0 { s with heap:=s.heap.push { cls:=.type "slice",data:=.fields #[.none,w,.none] } }:=by
  have st:Step H s H { s with heap:=s.heap.push { cls:=.type "slice",data:=.fields #[.none,w,.none] } }:=StepX.grow s.toks fun uu uu e=>Heap.get?_push_of_some _ e
  have R':Rep G H { s with heap:=s.heap.push { cls:=.type "slice",data:=.fields #[.none,w,.none] } }:=R.grow s.toks fun uu uu e=>Heap.get?_push_of_some _ e
  have go:∀ {v z:Value} {s':Shared},Step H s H s'->SubscriptOn (model G.prog G.w) A v z (PV G H s' Q) F0 s'->SubscriptOn (model G.prog G.w) A v z (PV G H s Q) F0 s':=fun st z=>z.elim fun T z=>z.elim fun id z=>⟨T,id,z.1,z.2.1,wpAny_mono z.2.2 (fun uu uu z=>z.lift st) fun uu uu z=>z⟩
  rcases y with ⟨⟩ <;> try exact noS h
  rename_i i
  obtain ⟨u,rfl⟩:=ry
  rcases x with ⟨⟩ <;> try exact noS h
  · rename_i x
    obtain ⟨t,rfl⟩:=rx
    obtain ⟨⟨rfl,hi2⟩,rfl⟩:=ite_e h
    refine ⟨"str",_,PyProof.Rows.slot_str_getitem.lookup,typeIs_str _ _ _,wpAny_getItem_str_slice (l:=none) (u:=some (-1,u)) (st:=none) ⟨_,Heap.get?_push_size _ rfl,rfl,rfl⟩ rfl ?_⟩
    unfold sliceMade
    rw [butLast]
    split
    · rename_i hc
      have h0:x.toList.length=0:=by
        rw [List.length_range,len_ofString] at hc; simp at hc; omega
      have h1:x.toList=[]:=List.length_eq_zero_iff.mp h0
      have h2:String.ofList x.toList.dropLast=x:=by rw [h1,<- String.ofList_toList (s:=x),h1]; rfl
      rw [h2] at q
      exact PA.lift st (PA.same R' rStr q)
    · rw [slice_text]
      exact ⟨by rw [len_ofString,String.toList_ofList,List.length_dropLast,sizeLine_eq]; omega,PA.lift st (PA.val (t:=s.toks+1) R' rStr q)⟩
  · rename_i a
    obtain rfl:=rx
    have h:sliceO i (H a)=some r:=h
    rcases hH:H a with uu | ⟨⟨⟩⟩ <;> rw [hH] at h <;> try exact noS h
    · obtain ⟨items,n,l1,l2⟩:=R'.list hH
      exact go st (slice_list (R':=R') l1.isList l2 (Heap.IsSliceOf.new _ _ _ _) h q)
    · obtain ⟨items,l1,l2⟩:=R'.own _ _ hH
      exact go st (slice_list (R':=R') l1 l2 (Heap.IsSliceOf.new _ _ _ _) h q)
inductive KindR (s:Shared) (v:Value) (m:String):Prop
  | mk (T id:String) (e:methT m=some (T,id)) (p:PlainAttrs T) (sl:Slot T (Str.ofString m) id) (t:typeOf (.builtin id)=pure (.type "method_descriptor")) (ti:s.TypeIs v T) (o:∀ a,v = .ref a->∃ ob,s.heap.get? a=some ob/\ob.dict=none)
theorem kind_at {s:Shared} (R:Rep G H s) {x:V} {v:Value} (rx:RepV G.X s.heap x v) {m:String} (h:kindM x m H=true):KindR s v m:=by
  rcases x with ⟨⟩ <;> try exact absurd h Bool.false_ne_true
  · obtain ⟨t,rfl⟩:=rx
    obtain rfl:m = "endswith" := of_decide_eq_true h
    exact ⟨"str", "str.endswith",rfl,F.plainAttrs_str,F.slot_str_endswith,F.type_str_endswith,typeIs_str _ _ _,fun a e=>nomatch e⟩
  · rename_i a
    obtain rfl:=rx
    have h:kindO m (H a)=true:=h
    rcases hH:H a with uu | ⟨⟨⟩⟩ <;> rw [hH] at h <;> try exact absurd h Bool.false_ne_true
    · obtain ⟨items,n,l1,uu⟩:=R.list hH
      have l2:∀ a',Value.ref a = .ref a'->∃ ob,s.heap.get? a'=some ob/\ob.dict=none:=fun a' e=>⟨_,Value.ref.inj e ▸ l1,rfl⟩
      have go:∀ {id:String},methT m=some ("list",id)->Slot "list" (Str.ofString m) id->typeOf (.builtin id)=pure (.type "method_descriptor")->KindR s (.ref a) m:=fun e1 e2 e3=>⟨"list",_,e1,F.plainAttrs_list,e2,e3,l1.isList.typeIs,l2⟩
      have h:m = "append" \/ m = "extend" \/ m = "pop" \/ m = "reverse" \/ m = "index" := of_decide_eq_true h
      rcases h with rfl | rfl | rfl | rfl | rfl
      · exact go rfl F.slot_list_append F.type_list_append
      · exact go rfl F.slot_list_extend F.type_list_extend
      · exact go rfl F.slot_list_pop F.type_list_pop
      · exact go rfl F.slot_list_reverse F.type_list_reverse
      · exact go rfl F.slot_list_index F.type_list_index
    · obtain rfl:m = "get" := of_decide_eq_true h
      obtain ⟨cvs,d1,uu⟩:=R.own _ _ hH
      refine ⟨"dict", "dict.get",rfl,F.plainAttrs_dict,F.slot_dict_get,F.type_dict_get,d1.typeIs,fun a e=>?_⟩
      obtain rfl:=Value.ref.inj e
      obtain ⟨o,es,ep,e1,e2,uu⟩:=d1
      exact ⟨o,e1,e2.2.1⟩
end
end Mine
end
section
open PySem PySem.W PyProof.Rows PySem.SeqAt
set_option maxRecDepth 100000
namespace Mine
variable {G:GC}
theorem getV_setV:∀ {ρ:Env} {i j:Nat} {v w:V},getV (setV ρ i v) j=some w->(j=i/\w=v) \/ (j ≠ i/\getV ρ j=some w)
  | [],_,_,_,_,h=>noS h
  | x::r,0,0,v,w,h=>.inl ⟨rfl,(Option.some.inj h).symm⟩
  | x::r,0,j+1,v,w,h=>.inr ⟨Nat.succ_ne_zero j,h⟩
  | x::r,i+1,0,v,w,h=>.inr ⟨(Nat.succ_ne_zero i).symm,h⟩
  | x::r,i+1,j+1,v,w,h=>(getV_setV (ρ:=r) h).imp (fun z=>⟨congrArg (· + 1) z.1,z.2⟩) fun z=>⟨fun e=>z.1 (Nat.succ.inj e),z.2⟩
structure Priv (G:GC) (H:AH) (h:Heap) (a:Addr):Prop where
  nH:H a=none
  ng:G.g₀.get? a=none
  ob:Alive h a
theorem Priv.step {Y:Addr->Prop} {H H':AH} {s s':Shared} {a:Addr} (P:Priv G H s.heap a) (x:StepX Y H s H' s') (n:¬ Y a):Priv G H' s'.heap a:=by
  obtain ⟨o,e,i⟩:=P.ob
  exact ⟨x.dm a o e P.nH,P.ng,o,x.kp a o e (noMu P.nH) n,i⟩
theorem imm_priv {X:Addr->Prop} {h h':Heap} {a:Addr} (k:∀ b o,b ≠ a->h.get? b=some o->h'.get? b=some o) (n:Alive h a):Imm X h h' :=
  fun b o e i uu=>k b o (fun hb=>by
    obtain ⟨o',e',n'⟩:=n
    exact n' (Option.some.inj (e.symm.trans ((congrArg h.get? hb).trans e')) ▸ i)) e
theorem Rep.priv0 {H:AH} {s:Shared} {a:Addr} {h':Heap} (R:Rep G H s) (P:Priv G H s.heap a) (t:Nat) (k:∀ b o,b ≠ a->s.heap.get? b=some o->h'.get? b=some o)
    (hx:G.X a->∃ o,h'.get? a=some o):Rep G H { s with heap:=h',toks:=t } where
  own b o e:=by
    obtain ⟨ob,q,uu⟩:=(R.own b o e).alive
    exact RepO.keep (imm_priv k P.ob) (q.trans (k _ _ (ne_H P.nH e) q).symm) (R.own b o e)
  ground b o e:=k b o (ne_new P.ng e) (R.ground b o e)
  gmut:=R.gmut
  xl b x:=⟨(R.xl b x).1,by
    by_cases hb:b=a
    · subst hb; exact hx x
    · exact (R.xl b x).2.imp fun o e=>k _ _ hb e⟩
  gens:=R.gens
  os:=R.os
  drawn:=R.drawn
theorem Rep.priv {H:AH} {s:Shared} {a:Addr} {h':Heap} (R:Rep G H s) (P:Priv G H s.heap a) (t:Nat) (k:∀ b o,b ≠ a->s.heap.get? b=some o->h'.get? b=some o)
    (al:∃ o,h'.get? a=some o):Rep G H { s with heap:=h',toks:=t }:=R.priv0 P t k fun uu=>al
theorem StepX.priv {H:AH} {s:Shared} {a:Addr} {h':Heap} (t:Nat) (k:∀ b o,b ≠ a->s.heap.get? b=some o->h'.get? b=some o)
    (al:∃ o,h'.get? a=some o):StepX (· = a) H s H { s with heap:=h',toks:=t } where
  kp b o e _ n:=k b o n e
  al b e:=by
    by_cases hb:b=a
    · subst hb; exact al.elim fun o z=>nomatch z.symm.trans e
    · exact al1 (k b · hb) e
  dom _ h:=.inl h
  dm _ _ _ h:=h
  gens:=rfl
  os:=rfl
  drawn:=rfl
theorem Rep.last {H:AH} {s:Shared} {a:Addr} {h':Heap} (R:Rep G H s) (P:Priv G H s.heap a) (nX:¬ G.X a) (t:Nat) (k:∀ b o,b ≠ a->s.heap.get? b=some o->h'.get? b=some o) :
    Rep G H { s with heap:=h',toks:=t }:=R.priv0 P t k fun x=>absurd x nX
theorem StepX.last {Y:Addr->Prop} {H₀ H:AH} {s₀ s:Shared} {a:Addr} {h':Heap} (x:StepX Y H₀ s₀ H s) (t:Nat) (f:s₀.heap.get? a=none) (k:∀ b o,b ≠ a->s.heap.get? b=some o->h'.get? b=some o) :
    StepX Y H₀ s₀ H { s with heap:=h',toks:=t } where
  kp b o e m n:=k b o (ne_new f e) (x.kp b o e m n)
  al b e:=by
    by_cases hb:b=a
    · rw [hb]; exact f
    · exact x.al b (al1 (k b · hb) e)
  dom:=x.dom
  dm:=x.dm
  gens:=x.gens
  os:=x.os
  drawn:=x.drawn
theorem StepX.snoc {Y Z:Addr->Prop} {H H₁ H₂:AH} {s s₁ s₂:Shared} (x:StepX Y H s H₁ s₁) (y:StepX Z H₁ s₁ H₂ s₂) (f:∀ a,Z a->Y a \/ s.heap.get? a=none):StepX Y H s H₂ s₂ where
  kp a o e hm hY:=y.kp a o (x.kp a o e hm hY) (x.old e hm) (fun hz=>(f a hz).elim hY fun q=>nomatch e.symm.trans q)
  al a e:=x.al a (y.al a e)
  dom a m:=(y.dom a m).elim (fun q=>x.dom a q) fun q=>.inr (x.al a q)
  dm a o e h:=by
    rcases q:s₁.heap.get? a with uu | o'
    · exact nomatch e.symm.trans (x.al a q)
    · exact y.dm a o' q (x.dm a o e h)
  gens:=y.gens.trans x.gens
  os:=y.os.trans x.os
  drawn:=y.drawn.trans x.drawn
section
variable {fi:FI} {env:PySem.Env} {H:AH} {ρ:Env} {s:Shared}
theorem FrR.privL (F:FrR G fi env H ρ s):Priv G H s.heap env.locals:=by
  obtain ⟨o,e,es,ep,d⟩:=F.dictL
  exact ⟨F.nL,F.gL,o,e,notImm_dict d⟩
noncomputable def ownK (kd:NameKind) (env:PySem.Env) (x:Str):Addr->Prop:=fun a=>(kd = .local/\a=env.locals) \/ (kd = .cell/\env.cells.lookup x=some a)
theorem FrR.setL (o:EnvOK fi env) (F:FrR G fi env H ρ s) {i:Nat} {x:Str} {v:V} {val:Value} (hi:fi[i]? = some (x,.local)) {m:Str->Option Value} (n2:∀ i x v,fi[i]? = some (x,NameKind.local)->getV ρ i=some v->∃ val,m x=some val/\RepV G.X s.heap v val) {h':Heap} {t:Nat}
    (hn:h'.Ns env.locals (fun y=>if y=x then some val else m y)) (k:∀ b o,b ≠ env.locals->s.heap.get? b=some o->h'.get? b=some o) (im:Imm G.X s.heap h') (e:RepV G.X h' v val):FrR G fi env H (setV ρ i v) { s with heap:=h',toks:=t }:=by
  refine ⟨F.nL,F.gL,⟨_,hn,fun j y w h1 h2=>?_⟩,fun j y kk h1 h2=>?_,F.inj⟩
  · rcases getV_setV h2 with ⟨rfl,rfl⟩ | ⟨hj,h2⟩
    · obtain ⟨rfl,uu⟩:=Prod.mk.inj (Option.some.inj (hi.symm.trans h1))
      exact ⟨val,if_pos rfl,e⟩
    · exact (n2 j y w h1 h2).imp fun w' z=>⟨(if_neg fun hy=>hj (get_inj o.nodup h1 (hy ▸ hi))).trans z.1,z.2.mono im⟩
  · obtain ⟨c,ov,e1,e2,e3,e4⟩:=F.cells j y kk h1 h2
    have hcL:c ≠ env.locals:=fun hc=>cell_dict e3 (hc ▸ F.dictL)
    refine ⟨c,ov,e1,e2,cell_keep e3 fun o=>k _ o hcL,fun w hw=>?_⟩
    rcases getV_setV hw with ⟨rfl,rfl⟩ | ⟨hj,hw⟩
    · obtain ⟨uu,rfl⟩:=Prod.mk.inj (Option.some.inj (hi.symm.trans h1)); exact h2.elim nofun nofun
    · exact (e4 w hw).imp fun w' z=>⟨z.1,z.2.mono im⟩
theorem FrR.setC (o:EnvOK fi env) (F:FrR G fi env H ρ s) {i:Nat} {x:Str} {v:V} {val:Value} (hi:fi[i]? = some (x,.cell)) {c:Addr} (e1:env.cells.lookup x=some c) (hL:env.locals ≠ c) {h':Heap} {t:Nat}
    (hc':h'.IsCell c (some val)) (k:∀ b o,b ≠ c->s.heap.get? b=some o->h'.get? b=some o) (im:Imm G.X s.heap h') (e:RepV G.X h' v val):FrR G fi env H (setV ρ i v) { s with heap:=h',toks:=t }:=by
  refine ⟨F.nL,F.gL,?_,fun j y kk h1 h2=>?_,F.inj⟩
  · obtain ⟨m,n,n2⟩:=F.ns
    refine ⟨m,ns_keep n fun o=>k _ o hL,fun j y w h1 h2=>?_⟩
    rcases getV_setV h2 with ⟨rfl,rfl⟩ | ⟨hj,h2⟩
    · exact nomatch (Prod.mk.inj (Option.some.inj (hi.symm.trans h1))).2
    · exact (n2 j y w h1 h2).imp fun w' z=>⟨z.1,z.2.mono im⟩
  · obtain ⟨c',ov',f1,f2,f3,f4⟩:=F.cells j y kk h1 h2
    by_cases hj:j=i
    · subst hj
      obtain ⟨rfl,rfl⟩:=Prod.mk.inj (Option.some.inj (hi.symm.trans h1))
      obtain rfl:=Option.some.inj (e1.symm.trans f1)
      exact ⟨c,some val,e1,f2,hc',fun w hw=>(getV_setV hw).elim (fun z=>⟨val,rfl,z.2 ▸ e⟩) fun z=>absurd rfl z.1⟩
    · have hne:c' ≠ c:=fun hc=>hj (get_inj o.nodup h1 (F.inj y x c (hc ▸ f1) e1 ▸ hi))
      exact ⟨c',ov',f1,f2,cell_keep f3 fun o=>k _ o hne,fun w hw=>(getV_setV hw).elim (fun z=>absurd z.1 hj) fun z=>(f4 w z.2).imp fun w' z=>⟨z.1,z.2.mono im⟩⟩
theorem storeVar {A:Around} {i:Nat} {x:Str} {kd:NameKind} {v:V} {val:Value} {E:Value->Shared->Prop} {Q:Unit->Shared->Prop}
    (o:EnvOK fi env) (R:Rep G H s) (F:FrR G fi env H ρ s) (hi:fi[i]? = some (x,kd)) (hk:kd = .local \/ kd = .cell) (e:RepV G.X s.heap v val)
    (q:∀ s',StepX (ownK kd env x) H s H s'->Rep G H s'->FrR G fi env H (setV ρ i v) s'->RepV G.X s'.heap v val->Q () s') :
    wpAny (model G.prog G.w) A (storeName env x val) Q E s:=by
  have hko:env.kindOf x=some kd:=by show env.scope.names.lookup x=_; rw [o.names]; exact lookup_of_get o.nodup hi
  rcases hk with rfl | rfl
  · obtain ⟨m,n1,n2⟩:=F.ns
    refine wpAny_storeName_local hko n1 (fun h' hn hs=>?_) (by rw [o.kind]; rfl)
    have k:∀ b o,b ≠ env.locals->s.heap.get? b=some o->h'.get? b=some o:=fun b o hb e=>hs.extBut b o hb e
    have al:∃ o,h'.get? env.locals=some o:=by obtain ⟨o,e,uu⟩:=ns_o hn; exact ⟨o,e⟩
    have im:=imm_priv (X:=G.X) k F.privL.ob
    exact q _ ((StepX.priv (s.toks+1) k al).weaken fun a h=>.inl ⟨rfl,h⟩) (R.priv F.privL (s.toks+1) k al) (F.setL o hi n2 hn k im (e.mono im)) (e.mono im)
  · obtain ⟨c,ov,e1,e2,e3,e4⟩:=F.cells i x _ hi (.inl rfl)
    refine wpAny_storeName_cell o.kind hko e1 e3 fun h' hc' hs=>?_
    have k:∀ b o,b ≠ c->s.heap.get? b=some o->h'.get? b=some o:=fun b o hb e=>hs.extBut b o hb e
    have al:∃ o,h'.get? c=some o:=hc'.imp fun o z=>z.1
    have pc:Priv G H s.heap c:=⟨e2.1,e2.2 rfl,by obtain ⟨o,e,d⟩:=e3; exact ⟨o,e,notImm_cell d⟩⟩
    have im:=imm_priv (X:=G.X) k pc.ob
    have hcL:env.locals ≠ c:=fun hc=>cell_dict e3 (hc ▸ F.dictL)
    exact q _ ((StepX.priv s.toks k al).weaken fun a h=>.inr ⟨rfl,h ▸ e1⟩) (R.priv pc s.toks k al) (F.setC o hi e1 hcL hc' k im (e.mono im)) (e.mono im)
end
inductive ItKeys (G:GC) (H:AH) (h:Heap) (L I:Addr) (all:List V) (j:Nat):Prop
  | int (d:Addr) (dL:d ≠ L) (dI:d ≠ I) (nm:¬ Mu H d) (cvs:List (Int × Value)) (ep:Nat) (i:h.IsKeyIter I d j cvs.length ep) (a:h.DictAt (intKind G.prog G.w) d cvs ep) (e:all=cvs.map fun p=>V.int p.1)
  | str (d:Addr) (dL:d ≠ L) (dI:d ≠ I) (nm:¬ Mu H d) (cvs:List (Str × Value)) (ks:List String) (ep:Nat) (i:h.IsKeyIter I d j cvs.length ep) (a:h.DictAt (PySem.strKind G.prog G.w) d cvs ep) (k:cvs.map (·.1)=ks.map Str.ofString) (e:all=ks.map V.str)
noncomputable def ItAt (G:GC) (H:AH) (h:Heap) (L I:Addr):V->List V->Nat->Prop
  | .ref a,_,j=>h.IsListIter I a j
  | .rng lo hi,all,j=>IsRangeIter h I (lo+(j:Nat)) ((hi - lo).toNat - (j:Nat):Int) 1/\all=rngL lo hi
  | .none,all,j=>ItKeys G H h L I all j
  | _,_,_=>False
inductive FldO (h:Heap) (a:Addr):Prop
  | mk (o:Obj) (e:h.get? a=some o) (fs:Array Value) (d:o.data = .fields fs)
structure ItOK (G:GC) (H:AH) (s:Shared) (L I:Addr) (it:V) (all:List V) (j:Nat):Prop where
  priv:Priv G H s.heap I
  nX:¬ G.X I
  nL:I ≠ L
  fld:FldO s.heap I
  at_:ItAt G H s.heap L I it all j
section
variable {H:AH} {s:Shared} {L I:Addr} {it x:V} {all:List V} {j:Nat}
theorem iter1_keep {h h':Heap} {a:Addr} {j:Nat} (z:h.IsListIter I a j) (k:∀ o,h.get? I=some o->h'.get? I=some o):h'.IsListIter I a j:=z.imp fun o z=>⟨k o z.1,z.2⟩
theorem kiter_keep {h h':Heap} {d:Addr} {j n ep:Nat} (z:h.IsKeyIter I d j n ep) (k:∀ o,h.get? I=some o->h'.get? I=some o):h'.IsKeyIter I d j n ep:=z.imp fun o z=>⟨k o z.1,z.2⟩
theorem dictAt_keep {K:Type} [DecidableEq K] {prog:Program} {w:World} {knd:PySem.KeyKind prog w K} {h h':Heap} {d:Addr} {cvs:List (K × Value)} {ep:Nat} (z:h.DictAt knd d cvs ep) (k:∀ o,h.get? d=some o->∀ es ep,o.data = .dict es ep->h'.get? d=some o):h'.DictAt knd d cvs ep:=by
  obtain ⟨o,es,e,e1,e2,r⟩:=z; exact ⟨o,es,k o e _ _ e2,e1,e2,r⟩
theorem dictAt_o {K:Type} [DecidableEq K] {prog:Program} {w:World} {knd:PySem.KeyKind prog w K} {h:Heap} {d:Addr} {cvs:List (K × Value)} {ep:Nat} (z:h.DictAt knd d cvs ep):DictO h d:=by
  obtain ⟨o,es,e,e1,e2,r⟩:=z; exact ⟨o,e,_,_,e2⟩
theorem ItOK.step {Y:Addr->Prop} {H':AH} {s':Shared} (K:ItOK G H s L I it all j) (x:StepX Y H s H' s')
    (hY:∀ a,Y a->a ≠ I/\(a=L \/ ∀ o,s.heap.get? a=some o->∀ es ep,o.data ≠ .dict es ep)):ItOK G H' s' L I it all j:=by
  have hI:¬ Y I:=fun h=>(hY I h).1 rfl
  have kI:∀ o,s.heap.get? I=some o->s'.heap.get? I=some o:=fun o e=>x.kp I o e (noMu K.priv.nH) hI
  have kd:∀ {d:Addr},d ≠ L->¬ Mu H d->∀ o,s.heap.get? d=some o->∀ es ep,o.data = .dict es ep->s'.heap.get? d=some o:=fun {d} d1 d2 o e es ep dd=>
    x.kp d o e d2 fun h=>(hY d h).2.elim d1 fun q=>q o e es ep dd
  refine ⟨K.priv.step x hI,K.nX,K.nL,by obtain ⟨o,e,fs,d⟩:=K.fld; exact ⟨o,kI o e,fs,d⟩,?_⟩
  have z:=K.at_
  rcases it with ⟨⟩ <;> try exact z.elim
  · rcases z with ⟨d,d1,d2,d3,cvs,ep,i,a,w⟩ | ⟨d,d1,d2,d3,cvs,ks,ep,i,a,k,w⟩
    · exact .int d d1 d2 (by obtain ⟨o,e,uu⟩:=dictAt_o a; exact x.old e d3) cvs ep (kiter_keep i kI) (dictAt_keep a (kd d1 d3)) w
    · exact .str d d1 d2 (by obtain ⟨o,e,uu⟩:=dictAt_o a; exact x.old e d3) cvs ks ep (kiter_keep i kI) (dictAt_keep a (kd d1 d3)) k w
  · exact iter1_keep z kI
  · exact ⟨kI _ z.1,z.2⟩
theorem still_list {a:Nat} (h:still (.ref a) all H):H a=some (.list all):=listAt_e h
theorem rngL_len (lo hi:Int):(rngL lo hi).length=(hi - lo).toNat:=(List.length_map _).trans List.length_range
theorem rngL_get {lo hi:Int} {j:Nat} {x:V} (h:(rngL lo hi)[j]? = some x):x = .int (lo+(j:Nat))/\j<(hi - lo).toNat:=by
  have hj:j<(hi - lo).toNat:=rngL_len lo hi ▸ (List.getElem?_eq_some_iff.mp h).1
  rw [rngL,List.getElem?_map,List.getElem?_range hj] at h
  exact ⟨(Option.some.inj h).symm,hj⟩
theorem fld_ni {o:Obj} {fs:Array Value} (d:o.data = .fields fs) (c:o.cls ≠ .type "range"):¬ immut o:=fun i=>i.elim (fun q=>q.2.elim fun uu q=>q.elim fun uu q=>nomatch d.symm.trans q) fun q=>c q.1
inductive ItObj (h:Heap) (I:Addr):Prop
  | mk (o:Obj) (e:h.get? I=some o) (fs:Array Value) (d:o.data = .fields fs) (c:o.cls ≠ .type "range")
theorem kiter_o {h:Heap} {d:Addr} {j n ep:Nat} (z:h.IsKeyIter I d j n ep):ItObj h I:=by obtain ⟨o,e,c,d⟩:=z; exact ⟨o,e,_,d,fun q=>absurd (Value.type.inj (c.symm.trans q)) (by decide)⟩
theorem liter_o {h:Heap} {a:Addr} {j:Nat} (z:h.IsListIter I a j):ItObj h I:=by obtain ⟨o,e,c,d⟩:=z; exact ⟨o,e,_,d,fun q=>absurd (Value.type.inj (c.symm.trans q)) (by decide)⟩
theorem next_item {A:Around} {E:Value->Shared->Prop} {Q:Option Value->Shared->Prop} (R:Rep G H s) (K:ItOK G H s L I it all j) (st:still it all H) (hx:all[j]? = some x)
    (q:∀ xv s',RepV G.X s'.heap x xv->StepX (· = I) H s H s'->Rep G H s'->ItOK G H s' L I it all (j+1)->Imm G.X s.heap s'.heap->Q (some xv) s') :
    wpAny (model G.prog G.w) A (pyNext (.ref I)) Q E s:=by
  have z:=K.at_
  have fin:∀ {xv h' t},(∀ b o,b ≠ I->s.heap.get? b=some o->h'.get? b=some o)->ItObj h' I->RepV G.X s.heap x xv->ItAt G H h' L I it all (j+1)->Q (some xv) { s with heap:=h',toks:=t }:=by
    intro xv h' t k ⟨o,eo,fs,ef,ec⟩ e ia
    have im:=imm_priv (X:=G.X) k K.priv.ob
    exact q xv _ (e.mono im) (StepX.priv t k ⟨o,eo⟩) (R.priv K.priv t k ⟨o,eo⟩) ⟨⟨K.priv.nH,K.priv.ng,o,eo,fld_ni ef ec⟩,K.nX,K.nL,⟨o,eo,fs,ef⟩,ia⟩ im
  rcases it with ⟨⟩ <;> try exact z.elim
  · rcases z with ⟨d,d1,d1',d2,cvs,ep,iI,iD,rfl⟩ | ⟨d,d1,d1',d2,cvs,ks,ep,iI,iD,ek,rfl⟩
    · rw [List.getElem?_map,Option.map_eq_some_iff] at hx
      obtain ⟨p,hp,rfl⟩:=hx
      refine wpAny_pyNext_dict_item iI iD (k:=p.1) (v:=p.2) hp fun key h' hk hi hs=>?_
      obtain ⟨t,rfl⟩:=Value.isInt_shape hk
      exact fin (fun b o hb e=>hs.extBut b o hb e) (kiter_o hi) ⟨t,rfl⟩ (.int d d1 d1' d2 cvs ep hi (iD.extBut hs.extBut d1') rfl)
    · rw [List.getElem?_map,Option.map_eq_some_iff] at hx
      obtain ⟨y,hy,rfl⟩:=hx
      have:(cvs.map (·.1))[j]? = some (Str.ofString y):=by rw [ek,List.getElem?_map,hy]; rfl
      rw [List.getElem?_map,Option.map_eq_some_iff] at this
      obtain ⟨p,hp,hpy⟩:=this
      refine wpAny_pyNext_dict_item iI iD (k:=p.1) (v:=p.2) hp fun key h' hk hi hs=>?_
      rw [hpy] at hk
      obtain ⟨t,rfl⟩:=Value.isStrOf_shape hk
      exact fin (fun b o hb e=>hs.extBut b o hb e) (kiter_o hi) ⟨t,rfl⟩ (.str d d1 d1' d2 cvs ks ep hi (iD.extBut hs.extBut d1') ek rfl)
  · obtain ⟨items,n,il,r⟩:=R.own _ _ (still_list st)
    obtain ⟨xv,hxv,e⟩:=r.get hx
    rw [Array.getElem?_toList] at hxv
    exact wpAny_pyNext_list_item z ⟨_,il,rfl,n,rfl⟩ (x:=xv) hxv fun h' hi hs=>fin (fun b o hb e=>hs.extBut b o hb e) (liter_o hi) e hi
  · rename_i lo hi
    obtain ⟨z,rfl⟩:=z
    obtain ⟨rfl,hlt⟩:=rngL_get hx
    refine wpAny_pyNext_range_item z (by omega) fun h' hi' hs=>fin (fun b o hb e=>hs.extBut b o hb e) ⟨_,hi',_,rfl,fun q=>absurd (Value.type.inj q) (by decide)⟩ ⟨_,rfl⟩ ⟨?_,rfl⟩
    have e1:lo+((j+1:Nat):Int)=lo+(j:Int)+1:=by rw [Int.natCast_succ,Int.add_assoc]
    have e2:((hi - lo).toNat:Int) - ((j+1:Nat):Int)=((hi - lo).toNat:Int) - (j:Int) - 1:=by rw [Int.natCast_succ,Int.sub_sub]
    rw [e1,e2]; exact hi'
theorem next_end {A:Around} {E:Value->Shared->Prop} {Q:Option Value->Shared->Prop} (hh:A.handled=none) (R:Rep G H s) (K:ItOK G H s L I it all j) (st:still it all H) (hx:all[j]? = none)
    (q:∀ h',(∀ b o,b ≠ I->s.heap.get? b=some o->h'.get? b=some o)->Q none { s with heap:=h' }) :
    wpAny (model G.prog G.w) A (pyNext (.ref I)) Q E s:=by
  have z:=K.at_
  rw [List.getElem?_eq_none_iff] at hx
  rcases it with ⟨⟩ <;> try exact z.elim
  · rcases z with ⟨d,d1,d1',d2,cvs,ep,iI,iD,rfl⟩ | ⟨d,d1,d1',d2,cvs,ks,ep,iI,iD,ek,rfl⟩
    · exact wpAny_pyNext_dict_end hh iI iD (List.getElem?_eq_none_iff.mpr (List.length_map _ ▸ hx)) fun h' hs=>q h' hs
    · exact wpAny_pyNext_dict_end hh iI iD (List.getElem?_eq_none_iff.mpr (map_len ek ▸ List.length_map _ ▸ hx)) fun h' hs=>q h' hs
  · obtain ⟨items,n,il,r⟩:=R.own _ _ (still_list st)
    exact wpAny_pyNext_list_end hh z ⟨_,il,rfl,n,rfl⟩ (Array.getElem?_eq_none_iff.mpr (Nat.le_trans (Nat.le_of_eq r.length) hx)) fun h' hs=>q h' hs
  · obtain ⟨z,rfl⟩:=z
    rw [rngL_len] at hx
    exact wpAny_pyNext_range_end hh z (by omega) fun h' hs=>q h' hs
theorem Rep.freshG (R:Rep G H s) {a:Addr} (h:s.heap.get? a=none):G.g₀.get? a=none:=by
  rcases e:G.g₀.get? a with uu | o
  · rfl
  · exact nomatch h.symm.trans (R.ground _ _ e)
theorem Rep.freshX (R:Rep G H s) {a:Addr} (h:s.heap.get? a=none):¬ G.X a:=R.notX h
theorem it_new (R:Rep G H s) (hL:∃ o,s.heap.get? L=some o) {Q:Value->Shared->Prop} (q:∀ I s',s.heap.get? I=none->Step H s H s'->Rep G H s'->ItOK G H s' L I it all 0->Q (.ref I) s') {ob:Obj} (hf:ob.isFreed=false) {fs:Array Value} (hd:ob.data = .fields fs) (hc:ob.cls ≠ .type "range")
    (ia:ItAt G H (s.heap.push ob) L s.heap.objs.size it all 0):Q (.ref s.heap.objs.size) { s with heap:=s.heap.push ob }:=by
  have hI:=none_size s.heap
  have k:∀ b o,s.heap.get? b=some o->(s.heap.push ob).get? b=some o:=fun b o e=>Heap.get?_push_of_some _ e
  have eo:(s.heap.push ob).get? s.heap.objs.size=some ob:=Heap.get?_push_size _ hf
  exact q _ _ hI (StepX.grow s.toks k) (R.grow s.toks k) ⟨⟨R.fresh hI,R.freshG hI,ob,eo,fld_ni hd hc⟩,R.freshX hI,hL.elim fun uu e=>(ne_new hI e).symm,⟨ob,eo,fs,hd⟩,ia⟩
theorem not_range {T:String} (h:T ≠ "range"):(Value.type T) ≠ .type "range" := fun q=>h (Value.type.inj q)
theorem iter_start {A:Around} {v:Value} {E:Value->Shared->Prop} {Q:Value->Shared->Prop} (R:Rep G H s) (e:RepV G.X s.heap x v) (hi:iterF x H=some all) (hL:∃ o,s.heap.get? L=some o)
    (q:∀ I s',s.heap.get? I=none->Step H s H s'->Rep G H s'->ItOK G H s' L I x all 0->Q (.ref I) s') :
    wpAny (model G.prog G.w) A (pyIter v) Q E s:=by
  rcases x with ⟨⟩ <;> try exact noS hi
  · obtain rfl:=e
    obtain ⟨items,n,il,r⟩:=R.own _ _ (listAt_e hi)
    exact wpAny_pyIter_list ⟨_,il,rfl,n,rfl⟩ (it_new R hL q rfl rfl (not_range (by decide)) ⟨_,Heap.get?_push_size _ rfl,rfl,rfl⟩)
  · rename_i lo hi'
    obtain rfl:=Option.some.inj hi
    obtain ⟨a,t,u,w,rfl,ir,uu,b1,b2,b3,b4⟩:=e
    refine wpAny_pyIter_range ir (small_one (by omega) (by omega) (by omega) (by omega)) (it_new R hL q rfl rfl (not_range (by decide)) ⟨?_,rfl⟩)
    have hsz:Builtin.Range.rangeSize lo hi' 1=((hi' - lo).toNat:Int):=by rw [rangeSize_one]; split <;> omega
    show _=_
    rw [Int.ofNat_zero,Int.add_zero,Int.sub_zero,<- hsz]
    exact Heap.get?_push_size _ rfl
  · exact e.elim
theorem keys_start {A:Around} {a:Nat} {oS:Obj} {E:Value->Shared->Prop} {Q:Value->Shared->Prop} (R:Rep G H s) (hs:G.g₀.get? sysModules=some oS) (hi:keysF (.ref a) H=some all) (hm:¬ Mu H a) (hL:∃ o,s.heap.get? L=some o) (hLn:H L=none)
    (q:∀ I s',s.heap.get? I=none->Step H s H s'->Rep G H s'->ItOK G H s' L I .none all 0->Q (.ref I) s') :
    wpAny (model G.prog G.w) A (pyIter (.ref a)) Q E s:=by
  have hi:keysO (H a)=some all:=hi
  rcases hH:H a with uu | ⟨⟨⟩⟩ <;> rw [hH] at hi <;> try exact noS hi
  · obtain rfl:=Option.some.inj hi
    obtain ⟨cvs,d1,d2,d3⟩:=R.own a _ hH
    obtain ⟨ep,dA⟩:=d1.dictAt
    refine wpAny_pyIter_dict (R.notSys hs hH) dA (it_new R hL q rfl rfl (not_range (by decide)) (.int a (ne_H hLn hH) (ne_H (R.fresh (none_size _)) hH) hm cvs ep ⟨_,Heap.get?_push_size _ rfl,rfl,rfl⟩ (dA.push _) ?_))
    have:=congrArg (List.map V.int) d2
    rw [List.map_map,List.map_map] at this
    exact this.symm
  · obtain rfl:=Option.some.inj hi
    obtain ⟨cvs,d1,d2,d3⟩:=R.own a _ hH
    obtain ⟨ep,dA⟩:=d1.dictAt
    exact wpAny_pyIter_dict (R.notSys hs hH) dA (it_new R hL q rfl rfl (not_range (by decide)) (.str a (ne_H hLn hH) (ne_H (R.fresh (none_size _)) hH) hm cvs _ ep ⟨_,Heap.get?_push_size _ rfl,rfl,rfl⟩ (dA.push _) (by rw [d2,List.map_map]; rfl) (by rw [List.map_map]; rfl)))
theorem iter_self {A:Around} {E:Value->Shared->Prop} {Q:Value->Shared->Prop} (K:ItOK G H s L I it all j) (hn:it ≠ .none) (q:Q (.ref I) s) :
    wpAny (model G.prog G.w) A (pyIter (.ref I)) Q E s:=by
  have z:=K.at_
  rcases it with ⟨⟩ <;> try exact z.elim
  · exact absurd rfl hn
  · exact wpAny_pyIter_listiter z q
  · exact wpAny_pyIter_rangeiter z.1 q
end
end Mine
end
section
open PySem PySem.W PyProof.Rows PySem.SeqAt
set_option maxRecDepth 100000
set_option maxHeartbeats 4000000
namespace Mine
variable {G:GC}
theorem notSet_plain {e:PE} (h:notSet e=true) (env:PySem.Env) (x:Value):foldedSetIterable e env x=pure x:=by
  rcases e with ⟨⟩ <;> first | exact rfl | exact absurd h Bool.false_ne_true
inductive FrK (fi:FI) (fr:List (Option Nat)) (i:Nat) (x:Str):NameKind->Prop
  | free (j:Nat) (e:fr[i]? = some (some j)) (h:fi[j]? = some (x,.cell)):FrK fi fr i x .free
  | loc (e:fr[i]? = some none):FrK fi fr i x .local
  | glob (e:fr[i]? = some none):FrK fi fr i x .globalImplicit
theorem frOk_get {fi:FI}:∀ {fr:List (Option Nat)} {names:FI},frOk fi fr names=true->∀ {i:Nat} {x:Str} {k:NameKind},names[i]? = some (x,k)->FrK fi fr i x k
  | [],[],_,_,_,_,e=>noS e
  | [],_::_,h,_,_,_,_=>absurd h Bool.false_ne_true
  | _::_,[],h,_,_,_,_=>absurd h Bool.false_ne_true
  | a::fr,(y,l)::r,h,0,x,k,e=>by
    obtain ⟨rfl,rfl⟩:=Prod.mk.inj (Option.some.inj e)
    have h:=(Bool.and_eq_true_iff.mp h).1
    rcases a with uu | j
    · rcases Bool.or_eq_true_iff.mp h with h | h
      · exact eq_e (P:=FrK fi _ 0 y) (beq_iff_eq.mp h) (.loc rfl)
      · exact eq_e (P:=FrK fi _ 0 y) (beq_iff_eq.mp h) (.glob rfl)
    · have h:=Bool.and_eq_true_iff.mp h
      exact eq_e (P:=FrK fi _ 0 y) (beq_iff_eq.mp h.1) (.free j rfl (beq_iff_eq.mp h.2))
  | a::fr,(y,l)::r,h,i+1,x,k,e=>by
    rcases frOk_get (fr:=fr) (names:=r) (Bool.and_eq_true_iff.mp h).2 (i:=i) e with ⟨j,e1,e2⟩ | e1 | e1
    · exact .free j e1 e2
    · exact .loc e1
    · exact .glob e1
theorem initC_get:∀ {fr:List (Option Nat)} {ρ:Env} {i:Nat} {v:V},getV (initC fr ρ) i=some v->∃ j,fr[i]? = some (some j)/\getV ρ j=some v
  | [],_,_,_,h=>noS h
  | none::_,_,0,_,h=>noS h
  | some j::_,_,0,_,h=>⟨j,rfl,h⟩
  | _::r,_,n+1,_,h=>initC_get (fr:=r) h
noncomputable def cloF (env:PySem.Env):FI->List (Str × Addr)->List (Str × Addr)
  | [],acc=>acc
  | (n,k)::r,acc=>if k == .free then cloF env r ((n,(env.cells.lookup n).getD 0)::acc) else cloF env r acc
theorem cellOf_eq {env:PySem.Env} {n:Str} {c:Addr} (h:env.cells.lookup n=some c):cellOf env n=pure c:=by
  unfold cellOf; rw [h]
theorem clo_eq {env:PySem.Env}:∀ (names:FI) (acc:List (Str × Addr)),(∀ x ∈ names,x.2 = .free->∃ c,env.cells.lookup x.1=some c) ->
    (forIn names acc fun x r=>match x with | (name,kind)=>if (kind == NameKind.free)=true then do let c <- cellOf env name; pure (ForInStep.yield ((name,c)::r)) else pure (ForInStep.yield r):Sem (List (Str × Addr)))=pure (cloF env names acc)
  | [],acc,_=>rfl
  | (n,k)::r,acc,h=>by
    rw [List.forIn_cons]
    by_cases hk:(k == NameKind.free)=true
    · obtain ⟨c,hc⟩:=h (n,k) (.head _) (beq_iff_eq.mp hk)
      have hc:env.cells.lookup n=some c:=hc
      simp only [hk,if_true,cellOf_eq hc,pure_bind,cloF]
      rw [clo_eq r _ fun x hx=>h x (.tail _ hx),hc]
      rfl
    · simp only [hk,cloF]
      exact clo_eq r _ fun x hx=>h x (.tail _ hx)
theorem cloF_sub {env:PySem.Env}:∀ (names:FI) (acc:List (Str × Addr)),(∀ x ∈ names,x.2 = .free->∃ c,env.cells.lookup x.1=some c)->(∀ n c,acc.lookup n=some c->env.cells.lookup n=some c) ->
    ∀ n c,(cloF env names acc).lookup n=some c->env.cells.lookup n=some c
  | [],acc,_,ha,n,c,e=>ha n c e
  | (m,k)::r,acc,h,ha,n,c,e=>by
    unfold cloF at e
    by_cases hk:(k == NameKind.free)=true
    · rw [if_pos hk] at e
      obtain ⟨d,hd⟩:=h (m,k) (.head _) (beq_iff_eq.mp hk)
      have hd:env.cells.lookup m=some d:=hd
      refine cloF_sub r _ (fun x hx=>h x (.tail _ hx)) (fun n' c' e'=>?_) n c e
      rw [hd,Option.getD_some,List.lookup_cons] at e'
      rcases hn:n' == m with uu | uu <;> rw [hn] at e'
      · exact ha n' c' e'
      · exact beq_iff_eq.mp hn ▸ hd.trans e'
    · rw [if_neg hk] at e
      exact cloF_sub r _ (fun x hx=>h x (.tail _ hx)) ha n c e
theorem cloF_some {env:PySem.Env}:∀ (names:FI) (acc:List (Str × Addr)) (n:Str),((n,NameKind.free) ∈ names \/ (acc.lookup n).isSome=true)->((cloF env names acc).lookup n).isSome=true
  | [],acc,n,h=>h.elim nofun id
  | (m,k)::r,acc,n,h=>by
    unfold cloF
    by_cases hk:(k == NameKind.free)=true
    · rw [if_pos hk]
      refine cloF_some r _ n ?_
      rw [List.lookup_cons]
      rcases hn:n == m with uu | uu
      · exact h.imp (fun h=>(List.mem_cons.mp h).elim (fun e=>absurd hn (by rw [(Prod.mk.inj e).1]; simp)) id) id
      · exact .inr rfl
    · rw [if_neg hk]
      exact cloF_some r _ n (h.imp (fun h=>(List.mem_cons.mp h).elim (fun e=>absurd (beq_iff_eq.mpr (Prod.mk.inj e).2.symm) hk) id) id)
theorem lookup_of_mem {names:FI} (hnd:nodupB names=true) {x:Str × NameKind} (hx:x ∈ names) (h:x.2 = .local):names.lookup x.1=some .local:=by
  obtain ⟨i,hi,e⟩:=List.mem_iff_getElem.mp hx
  exact lookup_of_get (of_decide_eq_true hnd) (i:=i) (by rw [List.getElem?_eq_getElem hi,e,<- h])
inductive CompFr (G:GC) (fi:FI) (env:PySem.Env) (fr:List (Option Nat)) (scope:Scope):Prop
  | mk (cl:List (Str × Addr)) (e:closureFor scope env=pure cl)
    (f:∀ (H₂:AH) (ρ₂:Env) (s₂:Shared) C s',FrR G fi env H₂ ρ₂ s₂->s'.heap.Ns C (fun uu=>none)->H₂ C=none->G.g₀.get? C=none->(∀ b ob,s₂.heap.get? b=some ob->s'.heap.get? b=some ob)->FrR G (relab fi scope.names) (compEnvC scope cl C env) H₂ (initC fr ρ₂) s')
    (o:∀ C,EnvOK (relab fi scope.names) (compEnvC scope cl C env)) (c:∀ x ∈ scope.names,x.2 ≠ .cell)
theorem comp_frame {fi:FI} {env:PySem.Env} {H:AH} {ρ:Env} {s:Shared} {fr:List (Option Nat)} {scope:Scope} (o:EnvOK fi env) (F:FrR G fi env H ρ s)
    (hfr:frOk fi fr scope.names=true) (hnd:nodupB scope.names=true) (hk:scope.kind = .function):CompFr G fi env fr scope:=by
  have kinds:∀ x ∈ scope.names,∃ i,scope.names[i]? = some (x.1,x.2)/\FrK fi fr i x.1 x.2:=fun x hx=>by
    obtain ⟨i,hi,e⟩:=List.mem_iff_getElem.mp hx
    have e:scope.names[i]? = some (x.1,x.2):=by rw [List.getElem?_eq_getElem hi,e]
    exact ⟨i,e,frOk_get hfr e⟩
  have free:∀ x ∈ scope.names,x.2 = .free->∃ c,env.cells.lookup x.1=some c:=fun x hx hf=>by
    obtain ⟨i,uu,z⟩:=kinds x hx
    rw [hf] at z
    obtain ⟨j,uu,h⟩:=z
    obtain ⟨c,ov,e1,uu⟩:=F.cells j x.1 _ h (.inl rfl); exact ⟨c,e1⟩
  have hrel:(relabel scope env).names=relab fi scope.names:=by
    show scope.names.map _=scope.names.map _
    refine List.map_congr_left fun p hp=>?_
    obtain ⟨n,kd⟩:=p
    have e1:(env.scope.kind == ScopeKind.function)=true:=by rw [o.kind]; rfl
    have e2:env.kindOf n=fi.lookup n:=by show env.scope.names.lookup n=_; rw [o.names]
    simp only [e1,e2,Bool.and_true]
  have see:∀ {i:Nat} {x:Str} {k:NameKind},(relab fi scope.names)[i]? = some (x,k)->(k = .cell/\scope.names[i]? = some (x,.free) /\ ∃ j,fr[i]? = some (some j)/\fi[j]? = some (x,.cell)) \/ (fr[i]? = some none/\(k = .local \/ k = .globalImplicit)):=by
    intro i x k h1
    rw [relab,List.getElem?_map,Option.map_eq_some_iff] at h1
    obtain ⟨⟨y,l⟩,e1,e2⟩:=h1
    rcases frOk_get hfr e1 with ⟨j',e3,e4⟩ | e3 | e3
    · have e5:(if (NameKind.free == .free && fi.lookup y == some .cell)=true then (y,NameKind.cell) else (y,.free))=(x,k):=e2
      rw [lookup_of_get o.nodup e4] at e5
      obtain ⟨rfl,rfl⟩:=Prod.mk.inj e5
      exact .inl ⟨rfl,e1,j',e3,e4⟩
    · exact .inr ⟨e3,.inl (Prod.mk.inj e2).2.symm⟩
    · exact .inr ⟨e3,.inr (Prod.mk.inj e2).2.symm⟩
  refine ⟨cloF env scope.names [],?_,?_,fun C=>⟨hk,hrel,o.globals,o.builtins,?_⟩,?_⟩
  · unfold closureFor
    exact (congrArg (fun t:Sem (List (Str × Addr))=>t >>= fun cs=>pure cs) (clo_eq scope.names [] free)).trans rfl
  · intro H₂ ρ₂ s₂ C s' F hn hC hg keep
    have sub:=cloF_sub scope.names [] free nofun
    refine ⟨hC,hg,⟨_,hn,fun i x v h1 h2=>?_⟩,fun i x k h1 h2=>?_,fun x y c h1 h2=>F.inj x y c (sub _ _ h1) (sub _ _ h2)⟩
    · obtain ⟨j,hj,uu⟩:=initC_get h2
      rcases see h1 with ⟨e,uu⟩ | ⟨e3,uu⟩
      · exact nomatch e
      · exact nomatch hj.symm.trans e3
    · rcases see h1 with ⟨rfl,e0,j',e3,e4⟩ | ⟨uu,rfl | rfl⟩
      · obtain ⟨c,ov,f1,f2,f3,f4⟩:=F.cells j' x _ e4 (.inl rfl)
        have hl:(cloF env scope.names []).lookup x=some c:=by
          obtain ⟨c',hc'⟩:=Option.isSome_iff_exists.mp (cloF_some (env:=env) scope.names [] x (.inl (List.mem_of_getElem? e0)))
          exact Option.some.inj (f1.symm.trans (sub x c' hc')) ▸ hc'
        refine ⟨c,ov,hl,⟨f2.1,fun uu=>f2.2 rfl⟩,cell_keep f3 (keep _),fun v hv=>?_⟩
        obtain ⟨j,g1,g2⟩:=initC_get hv
        obtain rfl:=Option.some.inj (Option.some.inj (e3.symm.trans g1))
        exact (f4 v g2).imp fun val z=>⟨z.1,z.2.mono fun b ob e uu uu=>keep b ob e⟩
      · exact h2.elim nofun nofun
      · exact h2.elim nofun nofun
  · have:(relab fi scope.names).map (·.1)=scope.names.map (·.1):=by
      rw [relab,List.map_map]
      refine List.map_congr_left fun p hp=>?_
      obtain ⟨n,kd⟩:=p
      simp only [Function.comp]
      split <;> rfl
    rw [this]; exact of_decide_eq_true hnd
  · intro x hx h
    obtain ⟨i,uu,z⟩:=kinds x hx
    rw [h] at z
    exact nomatch z
end Mine
end
section
open PySem PySem.W PyProof.Rows PySem.SeqAt
set_option maxRecDepth 100000
set_option maxHeartbeats 4000000
namespace Mine
variable {G:GC}
noncomputable def TestOK (G:GC) (k:Nat) (fi:FI) (ifs:List PE) (T:Env->AH->(Bool->AH->Prop)->Prop):Prop :=
  ∀ ρ H Q,T ρ H Q->∀ A env s,Room k A->EnvOK fi env->Rep G H s->FrR G fi env H ρ s ->
    wpAny (model G.prog G.w) A (forIn ifs true fun c ok=>if ok=true then do let b <- isTrue c env (eval c env); pure (ForInStep.yield b) else pure (ForInStep.yield ok)) (PB G H s Q) F0 s
noncomputable def ValOK (G:GC) (k:Nat) (fi:FI) (elt:PE) (T:Env->AH->(V->AH->Prop)->Prop):Prop:=∀ ρ H Q,T ρ H Q->WE G fi k elt ρ H Q
theorem cell_fld {h:Heap} {a:Addr} {v:Option Value} (n:h.IsCell a v) (d:FldO h a):False:=by
  obtain ⟨o,e,r⟩:=n
  obtain ⟨o',e',fs,r'⟩:=d
  obtain rfl:=Option.some.inj (e.symm.trans e')
  exact nomatch r.symm.trans r'
theorem RepO.keepAt {h h':Heap} {a:Addr} {x:AO} (e:RepO G h a x) (i:Imm G.X h h') (k:∀ o,h.get? a=some o->h'.get? a=some o):RepO G h' a x:=by
  obtain ⟨o,q,uu⟩:=e.alive
  exact RepO.keep i (q.trans (k _ q).symm) e
theorem list_nc {h:Heap} {a:Addr} {vs:List V} (x:RepO G h a (.list vs)):∀ v,¬ h.IsCell a v:=fun v n=>by
  obtain ⟨o,e,r⟩:=n
  obtain ⟨items,n,l,uu⟩:=x
  obtain rfl:=Option.some.inj (e.symm.trans l)
  exact nomatch r
theorem di_nc {h:Heap} {a:Addr} {fz:Bool} {kvs:List (Int × V)} (x:RepO G h a (.di fz kvs)):∀ v,¬ h.IsCell a v:=fun v n=>by
  obtain ⟨cvs,⟨o,es,ep,e1,e2,e3,uu⟩,uu⟩:=x
  exact cell_dict n ⟨o,e1,es,ep,e3⟩
theorem ItOK.stepNK {Y:Addr->Prop} {H H':AH} {s s':Shared} {L I:Addr} {it:V} {all:List V} {j:Nat} (K:ItOK G H s L I it all j) (hn:it ≠ .none) (x:StepX Y H s H' s') (hY:¬ Y I):ItOK G H' s' L I it all j:=by
  have kI:∀ o,s.heap.get? I=some o->s'.heap.get? I=some o:=fun o e=>x.kp I o e (noMu K.priv.nH) hY
  refine ⟨K.priv.step x hY,K.nX,K.nL,by obtain ⟨o,e,fs,d⟩:=K.fld; exact ⟨o,kI o e,fs,d⟩,?_⟩
  have z:=K.at_
  rcases it with ⟨⟩ <;> try exact z.elim
  · exact absurd rfl hn
  · exact iter1_keep z kI
  · exact ⟨kI _ z.1,z.2⟩
structure CFix (s₁:Shared) (L I D:Addr) (it:V):Prop where
  fI:s₁.heap.get? I=none
  fD:s₁.heap.get? D=none
  fC:s₁.heap.get? L=none
  dc:D ≠ L
  di:D ≠ I
  nn:it ≠ .none
structure CSt (G:GC) (fi:FI) (cenv:PySem.Env) (I D:Addr) (it:V) (all:List V) (H₁:AH) (s₁:Shared) (j:Nat) (H:AH) (ρ:Env) (o:AO) (s:Shared):Prop where
  st:Step H₁ s₁ H s
  R:Rep G H s
  F:FrR G fi cenv H ρ s
  K:ItOK G H s cenv.locals I it all j
  d:RepO G s.heap D o
  p:Priv G H s.heap D
section
variable {fi:FI} {cenv:PySem.Env} {I D:Addr} {it:V} {all:List V} {H₁ H H':AH} {s₁ s s':Shared} {j:Nat} {ρ ρ':Env} {o o':AO}
theorem CSt.step (c:CSt G fi cenv I D it all H₁ s₁ j H ρ o s) (x:Step H s H' s') (R:Rep G H' s'):CSt G fi cenv I D it all H₁ s₁ j H' ρ o s' where
  st:=c.st.trans x
  R:=R
  F:=c.F.step c.R x
  K:=c.K.step x fun uu h=>h.elim
  d:=c.d.keepAt (x.imm c.R) fun o e=>x.kp _ o e (noMu c.p.nH) id
  p:=c.p.step x id
theorem CSt.draw (f:CFix s₁ cenv.locals I D it) (c:CSt G fi cenv I D it all H₁ s₁ j H ρ o s) (x:StepX (· = I) H s H s') (R:Rep G H s') (K:ItOK G H s' cenv.locals I it all (j+1)) (im:Imm G.X s.heap s'.heap):CSt G fi cenv I D it all H₁ s₁ (j+1) H ρ o s' where
  st:=c.st.snoc x fun a h=>.inr (h ▸ f.fI)
  R:=R
  F:=c.F.move x.dm im (fun o e=>x.kp _ o e (noMu c.F.nL) fun h=>c.K.nL h.symm) fun i n k cc h1 h2 h3 hc o e=>x.kp _ o e (noMu hc) fun h=>by
    obtain ⟨c',ov,e1,uu,e3,uu⟩:=c.F.cells i n k h1 h2
    obtain rfl:=Option.some.inj (h3.symm.trans e1)
    exact cell_fld e3 (h ▸ c.K.fld)
  K:=K
  d:=c.d.keepAt im fun o e=>x.kp _ o e (noMu c.p.nH) f.di
  p:=c.p.step x f.di
theorem CSt.store (f:CFix s₁ cenv.locals I D it) (c:CSt G fi cenv I D it all H₁ s₁ j H ρ o s) {y:Str} (x:StepX (ownK .local cenv y) H s H s') (R:Rep G H s') (F:FrR G fi cenv H ρ' s'):CSt G fi cenv I D it all H₁ s₁ j H ρ' o s':=by
  have x:StepX (· = cenv.locals) H s H s':=x.weaken fun a h=>h.elim (·.2) fun h=>nomatch h.1
  have im:Imm G.X s.heap s'.heap:=StepX.imm c.R x fun a o hh e=>by
    obtain rfl:a=cenv.locals:=hh
    obtain ⟨oL,eL,es,ep,dL⟩:=c.F.dictL
    exact notImm_dict (Option.some.inj (eL.symm.trans e) ▸ dL)
  exact ⟨c.st.snoc x fun a h=>.inr (h ▸ f.fC),R,F,c.K.stepNK f.nn x c.K.nL,c.d.keepAt im fun o e=>x.kp _ o e (noMu c.p.nH) f.dc,c.p.step x f.dc⟩
theorem CSt.put (f:CFix s₁ cenv.locals I D it) (c:CSt G fi cenv I D it all H₁ s₁ j H ρ o s) (nc:∀ v,¬ s.heap.IsCell D v) {h':Heap} {t:Nat} (kk:∀ b o,b ≠ D->s.heap.get? b=some o->h'.get? b=some o) (d':RepO G h' D o') :
    CSt G fi cenv I D it all H₁ s₁ j H ρ o' { s with heap:=h',toks:=t }:=by
  obtain ⟨oD,eD,nD⟩:=d'.alive
  have x:StepX (· = D) H s H { s with heap:=h',toks:=t }:=StepX.priv t kk ⟨_,eD⟩
  exact ⟨c.st.snoc x fun a h=>.inr (h ▸ f.fD),c.R.priv c.p t kk ⟨_,eD⟩,c.F.move x.dm (imm_priv kk c.p.ob) (fun o e=>kk _ o f.dc.symm e) (fun i n k cc h1 h2 h3 hc o e=>kk _ o (fun h=>by
    obtain ⟨c',ov,e1,uu,e3,uu⟩:=c.F.cells i n k h1 h2
    obtain rfl:=Option.some.inj (h3.symm.trans e1)
    exact nc _ (h ▸ e3)) e),c.K.stepNK f.nn x f.di.symm,d',⟨c.p.nH,c.p.ng,oD,eD,nD⟩⟩
inductive CEnd (G:GC) (L D:Addr) (H₁:AH) (s₁:Shared) (H:AH) (o:AO) (s:Shared):Prop
  | mk (st:Step H₁ s₁ H s) (R:Rep G H s) (d:RepO G s.heap D o) (p:Priv G H s.heap D) (pL:Priv G H s.heap L) (n:∃ m,s.heap.Ns L m)
theorem CSt.fin (f:CFix s₁ cenv.locals I D it) (c:CSt G fi cenv I D it all H₁ s₁ j H ρ o s) {h':Heap} (kk:∀ b o,b ≠ I->s.heap.get? b=some o->h'.get? b=some o):CEnd G cenv.locals D H₁ s₁ H o { s with heap:=h' }:=by
  have pk:∀ {a},a ≠ I->Priv G H s.heap a->Priv G H h' a:=fun ha p=>by obtain ⟨o,e,q⟩:=p.ob; exact ⟨p.nH,p.ng,o,kk _ _ ha e,q⟩
  have hL:=c.K.nL.symm
  exact ⟨c.st.last s.toks f.fI kk,c.R.last c.K.priv c.K.nX s.toks kk,c.d.keepAt (imm_priv kk c.K.priv.ob) fun o e=>kk _ _ f.di e,pk f.di c.p,pk hL c.F.privL,by obtain ⟨m,n,uu⟩:=c.F.ns; exact ⟨m,ns_keep n fun o e=>kk _ o hL e⟩⟩
theorem drop_nil {xs:List V} {j:Nat} (h:xs[j]? = none):xs.drop j=[]:=List.drop_eq_nil_iff.mpr (List.getElem?_eq_none_iff.mp h)
theorem drop_cons {xs:List V} {j:Nat} {x:V} (h:xs[j]? = some x):xs.drop j=x::xs.drop (j+1):=by
  obtain ⟨h1,h2⟩:=List.getElem?_eq_some_iff.mp h
  rw [List.drop_eq_getElem_cons h1,h2]
theorem lt_get {xs:List V} {j:Nat} {x:V} (h:xs[j]? = some x):j<xs.length:=(List.getElem?_eq_some_iff.mp h).1
theorem less_of {xs:List V} {j:Nat} {x:V} (h:xs[j]? = some x):xs.length - (j+1)<xs.length - j:=by have:=lt_get h; omega
theorem comp_turn {k:Nat} {A:Around} (r:Room k A) (oc:EnvOK fi cenv) {i:Nat} {x:Str} {px:Pos} (hx:fi[i]? = some (x,.local)) (f:CFix s₁ cenv.locals I D it) (c:CSt G fi cenv I D it all H₁ s₁ j H ρ o s) (hs:still it all H)
    {N:Shared->Prop} {K:Unit->Shared->Prop} {E E':Value->Shared->Prop} (h0:all[j]? = none->∀ s',CEnd G cenv.locals D H₁ s₁ H o s'->N s') (h1:∀ xv,all[j]? = some xv->∀ s',CSt G fi cenv I D it all H₁ s₁ (j+1) H (setV ρ i xv) o s'->K () s') :
    wpAny (model G.prog G.w) A (pyNext (.ref I)) (fun r s₁=>match r with | none=>N s₁ | some v=>wpAny (model G.prog G.w) A (assign (.Name x px) cenv v) K E' s₁) E s:=by
  rcases hx':all[j]? with uu | xv
  · exact next_end r.1 c.R c.K hs hx' fun h' kk=>h0 hx' _ (c.fin f kk)
  · exact next_item c.R c.K hs hx' fun v s₂ ev st2 R2 K2 im2=>wpAny_assign_Name (storeVar oc R2 (c.draw f st2 R2 K2 im2).F hx (.inl rfl) ev fun s₃ st3 R3 F3 e3=>h1 xv hx' _ ((c.draw f st2 R2 K2 im2).store f st3 R3 F3))
inductive LInv (G:GC) (fi:FI) (cenv:PySem.Env) (I D:Addr) (it:V) (all:List V) (H₁:AH) (s₁:Shared) (W:Nat->AH->Env->List V->Prop) (m:Nat) (s:Shared):Prop
  | mk (j:Nat) (H:AH) (ρ:Env) (acc:List V) (e:m=all.length - j) (c:CSt G fi cenv I D it all H₁ s₁ j H ρ (.list acc) s) (w:W j H ρ acc)
inductive DInv (G:GC) (fi:FI) (cenv:PySem.Env) (I D:Addr) (it:V) (all:List V) (H₁:AH) (s₁:Shared) (W:Nat->AH->Env->List (Int × V)->Prop) (m:Nat) (s:Shared):Prop
  | mk (j:Nat) (H:AH) (ρ:Env) (acc:List (Int × V)) (e:m=all.length - j) (c:CSt G fi cenv I D it all H₁ s₁ j H ρ (.di false acc) s) (w:W j H ρ acc)
end
section
variable {k:Nat} {A:Around} {fi:FI} {cenv:PySem.Env} {i:Nat} {x:Str} {px:Pos} {elt kx vx iter:PE} {ifs:List PE} {scope:Scope} {pos:Pos} {Tt:Env->AH->(Bool->AH->Prop)->Prop} {Tk Te:Env->AH->(V->AH->Prop)->Prop}
variable {it:V} {all:List V} {I D:Addr} {H₁ H₀:AH} {s₁ s₀:Shared} {ρ₀:Env} {RR:Result->Shared->Prop}
theorem still_of {tg:Tgt} {it:V} {all:List V} {l:List V} {ρ:Env} {H:AH} {acc:List V} {K:List V->AH->Prop} (w:compT tg Tt Te it all l ρ H acc K):still it all H:=by rcases l with uu | uu <;> exact w.1
theorem still_ofD {tg:Tgt} {it:V} {all:List V} {l:List V} {ρ:Env} {H:AH} {acc:List (Int × V)} {K:List (Int × V)->AH->Prop} (w:dcompT tg Tk Te it all l ρ H acc K):still it all H:=by rcases l with uu | uu <;> exact w.1
theorem comp_loop (r:Room k A) (oc:EnvOK fi cenv) (hx:fi[i]? = some (x,.local)) (ht:TestOK G k fi ifs Tt) (he:ValOK G k fi elt Te) {K:List V->AH->Prop} (f:CFix s₁ cenv.locals I D it)
    (hRR:∀ H s' acc,CEnd G cenv.locals D H₁ s₁ H (.list acc) s'->K acc H->RR (.ok .next) s') (c₀:CSt G fi cenv I D it all H₁ s₁ 0 H₀ ρ₀ (.list []) s₀) (w:compT (.one i) Tt Te it all all ρ₀ H₀ [] K) :
    codeAny (model G.prog G.w) A (.compLoop (.ListComp elt [⟨.Name x px,iter,ifs,0⟩] scope pos) 0 (.ref I) (.ref D) cenv) RR s₀:=by
  refine codeAny_compLoop_tests (LInv G fi cenv I D it all H₁ s₁ fun j H ρ acc=>compT (.one i) Tt Te it all (all.drop j) ρ H acc K) ?_ all.length ⟨0,H₀,ρ₀,[],rfl,c₀,w⟩
  rintro m s ⟨j,H,ρ,acc,rfl,c,w⟩
  refine comp_turn r oc hx f c (still_of w) (fun h0 s' z=>hRR H s' acc z (by rw [drop_nil h0] at w; exact w.2)) fun xv h1 s₃ c3=>?_
  rw [drop_cons h1] at w
  refine PA.then (ht _ _ _ w.2 A cenv s₃ r oc c3.R c3.F) fun b H₄ b' s₄ st4 R4 e4 q4=>?_
  have c4:=c3.step st4 R4
  obtain rfl:=e4
  rcases b with uu | uu
  · exact ⟨_,less_of h1,j+1,H₄,_,acc,rfl,c4,q4⟩
  refine PA.then (he _ _ _ q4 A cenv s₄ r oc R4 c4.F) fun xv' H₅ v' s₅ st5 R5 e5 q5=>?_
  have c5:=c4.step st5 R5
  obtain ⟨items,n,l5,a5⟩:=c5.d
  refine call_meets PySem.F.slot_list_append ⟨_,l5,rfl⟩ PySem.F.entry_list_append (PySem.F.args_list_append_2 _ _) (list_append D items n v' (sizeOk a5.length q5.1)) ⟨l5,?_⟩
  have kk:∀ b o,b ≠ D->s₅.heap.get? b=some o->(s₅.heap.update D (Obj.mapSeq fun z=>z.push v')).get? b=some o:=fun b o hb e=>(Heap.get?_update_other _ _ (Ne.symm hb)).trans e
  have im6:=imm_priv (X:=G.X) kk c5.p.ob
  refine ⟨_,less_of h1,j+1,H₅,_,acc ++ [xv'],rfl,c5.put f (list_nc c5.d) (t:=s₅.toks) kk ⟨_,_,l5.update fun z=>z.push v',?_⟩,q5.2⟩
  rw [Array.toList_push]; exact (a5.mono im6).append (RepVs.one (e5.mono im6))
theorem dcomp_loop (r:Room k A) (oc:EnvOK fi cenv) (hx:fi[i]? = some (x,.local)) (ht:ValOK G k fi kx Tk) (he:ValOK G k fi vx Te) {K:List (Int × V)->AH->Prop} (f:CFix s₁ cenv.locals I D it)
    (hRR:∀ H s' acc,CEnd G cenv.locals D H₁ s₁ H (.di false acc) s'->K acc H->RR (.ok .next) s') (c₀:CSt G fi cenv I D it all H₁ s₁ 0 H₀ ρ₀ (.di false []) s₀) (w:dcompT (.one i) Tk Te it all all ρ₀ H₀ [] K) :
    codeAny (model G.prog G.w) A (.compLoop (.DictComp kx vx [⟨.Name x px,iter,[],0⟩] scope pos) 0 (.ref I) (.ref D) cenv) RR s₀:=by
  refine codeAny_compLoop_testsD (DInv G fi cenv I D it all H₁ s₁ fun j H ρ acc=>dcompT (.one i) Tk Te it all (all.drop j) ρ H acc K) ?_ all.length ⟨0,H₀,ρ₀,[],rfl,c₀,w⟩
  rintro m s ⟨j,H,ρ,acc,rfl,c,w⟩
  refine comp_turn r oc hx f c (still_ofD w) (fun h0 s' z=>hRR H s' acc z (by rw [drop_nil h0] at w; exact w.2)) fun xv h1 s₃ c3=>?_
  rw [drop_cons h1] at w
  refine wpAny_pure ?_
  rw [if_pos rfl]
  refine PA.then (ht _ _ _ w.2 A cenv s₃ r oc c3.R c3.F) fun kv H₄ kv' s₄ st4 R4 e4 q4=>?_
  have c4:=c3.step st4 R4
  refine PA.then (he _ _ _ q4 A cenv s₄ r oc R4 c4.F) fun xv' H₅ v' s₅ st5 R5 e5 q5=>?_
  have c5:=c4.step st5 R5
  have e4':=e4.step R4 st5
  rcases kv with ⟨⟩ <;> try exact q5.elim
  rename_i kk0
  obtain ⟨t,rfl⟩:=e4'
  obtain ⟨cvs,d1,d2,d3⟩:=c5.d
  obtain ⟨nd1,nd2⟩:=dset_stored (x:=kk0) e5 acc cvs (by obtain ⟨uu,uu,uu,uu,uu,uu,uu,uu,hn⟩:=d1; exact hn) d2 d3
  refine wpAny_dictSet_pairs (knd:=intKind G.prog G.w) (k:=kk0) (by simp [intKind,Value.isInt]) d1 (fun h' hd hs=>?_) (by rw [map_len d2,sizeLine_eq]; have:=q5.1; omega)
  have kk:∀ b o,b ≠ D->s₅.heap.get? b=some o->h'.get? b=some o:=fun b o hb e=>hs.extBut b o hb e
  exact ⟨_,less_of h1,j+1,H₅,_,dset acc kk0 xv',rfl,c5.put f (di_nc c5.d) (t:=s₅.toks+1) kk ⟨_,hd,nd1,nd2.mono (imm_priv kk c5.p.ob)⟩,q5.2⟩
end
theorem Rep.adopt {H:AH} {s:Shared} (R:Rep G H s) {a:Addr} {o':AO} (P:Priv G H s.heap a) (nX:¬ G.X a) (e:RepO G s.heap a o'):Rep G (H.set a o') s where
  own b o eb:=by
    by_cases hb:b=a
    · subst hb; rw [AH.set_self] at eb; exact Option.some.inj eb ▸ e
    · rw [AH.set_ne hb] at eb; exact R.own b o eb
  ground:=R.ground
  gmut b o eb:=(AH.set_ne (ne_new P.ng eb)).trans (R.gmut b o eb)
  xl b x:=⟨(AH.set_ne fun hb:b=a=>nX (hb ▸ x)).trans (R.xl b x).1,(R.xl b x).2⟩
  gens:=R.gens
  os:=R.os
  drawn:=R.drawn
theorem StepX.adopt {Y:Addr->Prop} {H H':AH} {s s':Shared} (x:StepX Y H s H' s') {a:Addr} {o':AO} (f:s.heap.get? a=none):StepX Y H s (H'.set a o') s' where
  kp:=x.kp
  al:=x.al
  dom b q:=(Mu_set q).elim (fun hb=>.inr (hb ▸ f)) fun m=>x.dom b m
  dm b o e q:=(AH.set_ne (ne_new f e)).trans (x.dm b o e q)
  gens:=x.gens
  os:=x.os
  drawn:=x.drawn
end Mine
end
section
open PySem PySem.W PyProof.Rows PySem.SeqAt
set_option maxRecDepth 100000
set_option maxHeartbeats 4000000
namespace Mine
variable {G:GC}
theorem ItOK.relL {H:AH} {s:Shared} {L L' I:Addr} {it:V} {all:List V} {j:Nat} (K:ItOK G H s L I it all j) (hn:it ≠ .none) (h:I ≠ L'):ItOK G H s L' I it all j:=by
  refine ⟨K.priv,K.nX,h,K.fld,?_⟩
  have z:=K.at_
  rcases it with ⟨⟩ <;> first | exact z.elim | exact z | exact absurd rfl hn
theorem iter_notNone {x:V} {H:AH} {all:List V} (h:iterF x H=some all):x ≠ .none:=by
  rintro rfl; exact noS h
section
variable {k:Nat} {A:Around} {fi:FI} {env:PySem.Env} {ρ:Env} {H₁:AH} {s₁:Shared} {fr:List (Option Nat)} {scope:Scope} {cl:List (Str × Addr)} {i:Nat} {x:Str} {px:Pos}
theorem comp_core (o:EnvOK fi env) (R₁:Rep G H₁ s₁) (F₁:FrR G fi env H₁ ρ s₁)
    (hfr:∀ (H₂:AH) (ρ₂:Env) (s₂:Shared) C s',FrR G fi env H₂ ρ₂ s₂->s'.heap.Ns C (fun uu=>none)->H₂ C=none->G.g₀.get? C=none->(∀ b ob,s₂.heap.get? b=some ob->s'.heap.get? b=some ob)->FrR G (relab fi scope.names) (compEnvC scope cl C env) H₂ (initC fr ρ₂) s')
    (hcell:∀ x ∈ scope.names,x.2 ≠ .cell) (hkind:scope.kind = .function)
    {mk:Sem Value} {ob:Obj} {o₀:AO} (hmk:∀ {Q:Value->Shared->Prop} {E:Value->Shared->Prop} {s:Shared},Q (.ref s.heap.objs.size) { s with heap:=s.heap.push ob }->wpAny (model G.prog G.w) A mk Q E s) (h₀:∀ h:Heap,RepO G (h.push ob) h.objs.size o₀)
    {comp:PE} {xv:V} {v:Value} {all:List V} {RR:Value->Addr->Result->Shared->Prop} (ev:RepV G.X s₁.heap xv v) (hall:iterF xv H₁ = some all)
    (start:∀ I D C s₄,CFix s₁ C I D xv->CSt G (relab fi scope.names) (compEnvC scope cl C env) I D xv all H₁ s₁ 0 H₁ (initC fr ρ) o₀ s₄->codeAny (model G.prog G.w) A (.compStart comp 0 (.ref I) (.ref D) (compEnvC scope cl C env)) (RR (.ref D) C) s₄) {E:Value->Shared->Prop} :
    wpAny (model G.prog G.w) A (pyIter v) (fun it s₂=>wpAny (model G.prog G.w) A mk (fun acc s₃=>wpAny (model G.prog G.w) A (newFunctionEnv scope env.globals cl [] env.qual none .none (some env)) (fun cenv s₄=>
      codeAny (model G.prog G.w) A (.compStart comp 0 it acc { cenv with scope:=relabel scope env }) (RR acc cenv.locals) s₄) E s₃) E s₂) E s₁:=by
  refine iter_start (L:=env.locals) R₁ ev hall (by obtain ⟨o,e,uu⟩:=F₁.dictL; exact ⟨o,e⟩) fun I s₂ fI st2 R2 K2=>?_
  have F2:=F₁.step R₁ st2
  refine hmk (wpAny_newFunctionEnv hcell (by intro y hy; exact nomatch hy) (fun h₁ hns₁ hsb₁=>?_) hkind)
  dsimp only at hns₁ hsb₁ ⊢
  have hD:=none_size s₂.heap
  have h₀:=h₀ s₂.heap
  generalize hH2:s₂.heap.push ob=H2 at hns₁ hsb₁ h₀ ⊢
  have hC:H2.objs.size=s₂.heap.objs.size+1:=by rw [<- hH2,Heap.size_push]
  have hDC:s₂.heap.objs.size ≠ H2.objs.size:=by rw [hC]; exact Nat.ne_of_lt (Nat.lt_succ_self _)
  have hCn:s₂.heap.get? H2.objs.size=none:=Heap.get?_none_of_le (by rw [hC]; exact Nat.le_succ _)
  have keep:∀ b o,s₂.heap.get? b=some o->h₁.get? b=some o:=fun b o e=>hsb₁.extBut b o (ne_new hCn e) (Heap.get?_push_of_some _ (hH2 ▸ Heap.get?_push_of_some _ e))
  have st4:Step H₁ s₂ H₁ { s₂ with heap:=h₁,toks:=s₂.toks+([]:List (Str × Value)).length }:=StepX.grow _ keep
  have lD:RepO G h₁ s₂.heap.objs.size o₀:=h₀.keepAt (fun b o e i nx=>hsb₁.extBut b o (ne_new (none_size H2) e) (Heap.get?_push_of_some _ e)) fun o e=>hsb₁.extBut _ _ hDC (Heap.get?_push_of_some _ e)
  have nn:=iter_notNone hall
  have hI:∀ {a},s₂.heap.get? a=none->I ≠ a:=fun ha=>by obtain ⟨o,e,uu⟩:=K2.priv.ob; exact ne_new ha e
  exact start I s₂.heap.objs.size H2.objs.size _ ⟨fI,st2.al _ hD,st2.al _ hCn,hDC,(hI hD).symm,nn⟩
    ⟨st2.trans st4,R2.grow _ keep,hfr _ _ _ _ { s₂ with heap:=h₁,toks:=s₂.toks+([]:List (Str × Value)).length } F2 hns₁ (R2.fresh hCn) (R2.freshG hCn) keep,(K2.step st4 fun a h=>h.elim).relL nn (hI hCn),lD,⟨R2.fresh hD,R2.freshG hD,lD.alive⟩⟩
theorem relab_local (hx:scope.names[i]? = some (x,.local)):(relab fi scope.names)[i]? = some (x,.local):=by
  rw [relab,List.getElem?_map,hx]; rfl
theorem comp_give {Q:V->AH->Prop} {H H₂:AH} {s s₁ s':Shared} {D C:Addr} {o':AO} (st1:Step H s H₁ s₁) (R1:Rep G H₁ s₁) (fD:s₁.heap.get? D=none) (fC:s₁.heap.get? C=none) (hDC:D ≠ C) (z:CEnd G C D H₁ s₁ H₂ o' s') (hK:∀ a,H₂ a=none->Q (.ref a) (H₂.set a o')) :
    compPost (model G.prog G.w) A F0 none (PV G H s Q) (.ref D) C (.ok .next) s':=by
  obtain ⟨st2,R2,d,pD,pC,m,hn⟩:=z
  refine ⟨m,hn,fun h' hs'=>?_⟩
  have kk:∀ b o,b ≠ C->s'.heap.get? b=some o->h'.get? b=some o:=fun b o hb e=>hs'.extBut b o hb e
  have d3:=d.keepAt (imm_priv kk pC.ob) fun o e=>kk _ _ hDC e
  exact ⟨.ref D,H₂.set D o',st1.trans (StepX.adopt (st2.last s'.toks fC kk) fD),(R2.last pC (R1.freshX fC) s'.toks kk).adopt ⟨pD.nH,pD.ng,d3.alive⟩ (R1.freshX fD) d3,rfl,hK D pD.nH⟩
theorem comp_list {target iter elt:PE} {ifs:List PE} {pos:Pos} (hc:compOk fi fr (.one i) target scope=true) (hs:notSet iter=true)
    {Tt:Env->AH->(Bool->AH->Prop)->Prop} {Te:Env->AH->(V->AH->Prop)->Prop} (ht:TestOK G k (relab fi scope.names) ifs Tt) (he:ValOK G k (relab fi scope.names) elt Te) {H:AH} {Q:V->AH->Prop}
    (hit:WE G fi k iter ρ H fun x H₁=>match iterF x H₁ with
      | some vs=>compT (.one i) Tt Te x vs vs (initC fr ρ) H₁ [] fun acc H₂=>∀ a,H₂ a=none->Q (.ref a) (H₂.set a (.list acc))
      | none=>False):WE G fi k (.ListComp elt [⟨target,iter,ifs,0⟩] scope pos) ρ H Q:=by
  refine compOk_e (P:=fun target=>WE G fi k (.ListComp elt [⟨target,iter,ifs,0⟩] scope pos) ρ H Q) hc fun x px c1 c2 c3 c4 A env s r o R F=>?_
  obtain ⟨cl,g1,g2,g3,g4⟩:=comp_frame o F c1 c2 c3
  rw [eval_ListComp]
  refine wpAny_comprehension_free (use:=none) rfl (notSet_plain hs env) g1 c3 (fun x hx h=>lookup_of_mem c2 hx h) (PA.then (hit A env s r o R F) fun xv H₁ v s₁ st1 R1 e1 q1=>optL q1 fun all hall q1=>?_)
  refine comp_core o R1 (F.step R st1) g2 g4 c3 (o₀:=.list []) (fun q=>wpAny_newObj_type q) (fun h=>⟨#[],0,Heap.get?_push_size _ rfl,rfl⟩) e1 hall (RR:=fun acc C=>compPost (model G.prog G.w) A F0 none (PV G H s Q) acc C) fun I D C s₄ f c=>?_
  have loop:=comp_loop (elt:=elt) (iter:=iter) (ifs:=ifs) (scope:=scope) (pos:=pos) (px:=px) (RR:=compPost (model G.prog G.w) A F0 none (PV G H s Q) (.ref D) C) r (g3 C) (relab_local c4) ht he f (fun H₂ s' acc z hK=>comp_give st1 R1 f.fD f.fC f.dc z hK) c q1
  exact codeAny_compStart_list loop (iter_self c.K f.nn loop)
theorem dcomp_dict {target iter kx vx:PE} {pos:Pos} (hc:compOk fi fr (.one i) target scope=true) (hs:notSet iter=true)
    {Tk Te:Env->AH->(V->AH->Prop)->Prop} (ht:ValOK G k (relab fi scope.names) kx Tk) (he:ValOK G k (relab fi scope.names) vx Te) {H:AH} {Q:V->AH->Prop}
    (hit:WE G fi k iter ρ H fun x H₁=>match iterF x H₁ with
      | some vs=>dcompT (.one i) Tk Te x vs vs (initC fr ρ) H₁ [] fun acc H₂=>∀ a,H₂ a=none->Q (.ref a) (H₂.set a (.di false acc))
      | none=>False):WE G fi k (.DictComp kx vx [⟨target,iter,[],0⟩] scope pos) ρ H Q:=by
  refine compOk_e (P:=fun target=>WE G fi k (.DictComp kx vx [⟨target,iter,[],0⟩] scope pos) ρ H Q) hc fun x px c1 c2 c3 c4 A env s r o R F=>?_
  obtain ⟨cl,g1,g2,g3,g4⟩:=comp_frame o F c1 c2 c3
  rw [arm_eval_DictComp]
  refine wpAny_comprehension_free (use:=none) rfl (notSet_plain hs env) g1 c3 (fun x hx h=>lookup_of_mem c2 hx h) (PA.then (hit A env s r o R F) fun xv H₁ v s₁ st1 R1 e1 q1=>optL q1 fun all hall q1=>?_)
  refine comp_core o R1 (F.step R st1) g2 g4 c3 (o₀:=.di false []) (fun q=>wpAny_newObj_type q) (fun h=>⟨[],Heap.DictOf.new h,rfl,rfl⟩) e1 hall (RR:=fun acc C=>compPost (model G.prog G.w) A F0 none (PV G H s Q) acc C) fun I D C s₄ f c=>?_
  have loop:=dcomp_loop (kx:=kx) (vx:=vx) (iter:=iter) (scope:=scope) (pos:=pos) (px:=px) (RR:=compPost (model G.prog G.w) A F0 none (PV G H s Q) (.ref D) C) r (g3 C) (relab_local c4) ht he f (fun H₂ s' acc z hK=>comp_give st1 R1 f.fD f.fC f.dc z hK) c q1
  exact codeAny_compStart_dict loop (iter_self c.K f.nn loop)
end
end Mine
end
section
open PySem PySem.W PyProof.Rows PySem.SeqAt
set_option maxRecDepth 100000
set_option maxHeartbeats 4000000
namespace Mine
variable {G:GC} {fi:FI} {env:PySem.Env} {H:AH} {ρ:Env} {s:Shared}
theorem ownK_own (hn:(fi.map (·.1)).Nodup) {i:Nat} {x:Str} {kd:NameKind} (h:fi[i]? = some (x,kd)):∀ a,ownK kd env x a->ownX fi env a :=
  fun a z=>z.elim (fun z=>.inl z.2) fun z=>.inr ⟨x,z.1 ▸ lookup_of_get hn h,z.2⟩
theorem FrR.old (hn:(fi.map (·.1)).Nodup) (F:FrR G fi env H ρ s):∀ a,ownX fi env a->∃ o,s.heap.get? a=some o:=by
  rintro a (rfl | ⟨x,h1,h2⟩)
  · obtain ⟨o,e,uu⟩:=F.dictL; exact ⟨o,e⟩
  · obtain ⟨j,hj,hx⟩:=List.mem_iff_getElem.mp (mem_of_lookup h1)
    obtain ⟨c,ov,k1,uu,k2,uu⟩:=F.cells j x _ (by rw [List.getElem?_eq_getElem hj,hx]) (.inl rfl)
    obtain rfl:=Option.some.inj (h2.symm.trans k1)
    exact k2.imp fun uu z=>z.1
theorem FrR.newOwn (hn:(fi.map (·.1)).Nodup) (F:FrR G fi env H ρ s) {a:Addr} (h:s.heap.get? a=none):¬ ownX fi env a:=fun z=>(F.old hn a z).elim fun o e=>nomatch h.symm.trans e
inductive UseR (G:GC) (fi:FI) (env:PySem.Env) (H:AH) (s:Shared) (ρ:Env) (iy:Nat) (Q:V->AH->Prop) (s':Shared):Prop
  | mk (a:Addr) (H':AH) (st:StepX (ownX fi env) H s H' s') (R:Rep G H' s') (F:FrR G fi env H' (setV ρ iy (.ref a)) s') (q:Q (.ref a) H')
theorem comp_use_give {A:Around} {Q:V->AH->Prop} {H₁ H₂:AH} {s₁ s':Shared} {D C:Addr} {acc:List V} {iy:Nat} {y:Str} {py:Pos} (o:EnvOK fi env) (hy:fi[iy]? = some (y,.local)) (st1:Step H s H₁ s₁) (R1:Rep G H₁ s₁) (F1:FrR G fi env H₁ ρ s₁) (fD:s₁.heap.get? D=none) (fC:s₁.heap.get? C=none) (hDC:D ≠ C)
    (z:CEnd G C D H₁ s₁ H₂ (.list acc) s') (hK:∀ a,H₂ a=none->Q (.ref a) (H₂.set a (.list acc))) :
    compPost (model G.prog G.w) A F0 (some (assign (.Name y py) env)) (fun uu s'=>UseR G fi env H s ρ iy Q s') (.ref D) C (.ok .next) s':=by
  obtain ⟨st2,R2,d,pD,pC,m,hn⟩:=z
  have F2:=F1.step R1 st2
  refine wpAny_assign_Name (storeVar o R2 F2 hy (.inl rfl) (v:=.ref D) rfl fun s₃ st3 R3 F3 e3=>?_)
  have st3':StepX (ownX fi env) H₂ s' H₂ s₃:=st3.weaken (ownK_own o.nodup hy)
  have nC:=F1.newOwn o.nodup fC
  have nD:=F1.newOwn o.nodup fD
  have pC3:=pC.step st3' nC
  have im3:Imm G.X s'.heap s₃.heap:=StepX.imm R2 st3' fun a o' h e=>F2.notImm o.nodup a o' h e
  have d3:=d.keepAt im3 fun o e=>st3'.kp _ _ e (noMu pD.nH) nD
  refine ⟨m,ns_keep hn fun o e=>st3'.kp _ _ e (noMu pC.nH) nC,fun h' hs'=>?_⟩
  have kk:∀ b o,b ≠ C->s₃.heap.get? b=some o->h'.get? b=some o:=fun b o hb e=>hs'.extBut b o hb e
  have im4:=imm_priv (X:=G.X) kk pC3.ob
  have d4:=d3.keepAt im4 fun o e=>kk _ _ hDC e
  have base:StepX (ownX fi env) H₁ s₁ H₂ { s₃ with heap:=h',toks:=s₃.toks }:=((Step.to st2).trans st3').last s₃.toks fC kk
  have old:∀ (i:Nat) (x:Str) (k:NameKind) (c:Addr),fi[i]? = some (x,k)->(k=NameKind.cell \/ k=NameKind.free)->env.cells.lookup x=some c->c ≠ C/\c ≠ D:=fun i x k c h1 h2 h3=>by
    obtain ⟨c',ov',z1,z2,z3,uu⟩:=F1.cells _ _ _ h1 h2
    obtain rfl:=Option.some.inj (h3.symm.trans z1)
    exact z3.elim fun o z=>⟨ne_new fC z.1,ne_new fD z.1⟩
  refine ⟨D,H₂.set D (.list acc),(Step.to st1).trans (base.adopt fD),(R3.last pC3 (R1.freshX fC) s₃.toks kk).adopt ⟨pD.nH,pD.ng,d4.alive⟩ (R1.freshX fD) d4,?_,hK D pD.nH⟩
  have F4:FrR G fi env H₂ (setV ρ iy (.ref D)) { s₃ with heap:=h',toks:=s₃.toks }:=F3.move (fun uu uu uu h=>h) im4 (fun o e=>kk _ o (fun h=>nC (.inl h.symm)) e) fun i n k c h1 h2 h3 uu o e=>kk _ o (old _ _ _ _ h1 h2 h3).1 e
  refine ⟨(AH.set_ne fun h=>nD (.inl h.symm)).trans F4.nL,F4.gL,F4.ns,fun i' x' k' h1 h2=>?_,F4.inj⟩
  obtain ⟨c,ov,e1,e2,e3,e4⟩:=F4.cells i' x' k' h1 h2
  exact ⟨c,ov,e1,⟨(AH.set_ne (old _ _ _ _ h1 h2 e1).2).trans e2.1,e2.2⟩,e3,e4⟩
theorem comp_use {k:Nat} {fr:List (Option Nat)} {i:Nat} {target iter elt:PE} {ifs:List PE} {scope:Scope} {pos ps:Pos} (hc:compOk fi fr (.one i) target scope=true) (hs:notSet iter=true)
    {Tt:Env->AH->(Bool->AH->Prop)->Prop} {Te:Env->AH->(V->AH->Prop)->Prop} (ht:TestOK G k (relab fi scope.names) ifs Tt) (he:ValOK G k (relab fi scope.names) elt Te) {Q:V->AH->Prop}
    {iy:Nat} {y:Str} {py:Pos} (hy:fi[iy]? = some (y,.local))
    (hit:WE G fi k iter ρ H fun x H₁=>match iterF x H₁ with
      | some vs=>compT (.one i) Tt Te x vs vs (initC fr ρ) H₁ [] fun acc H₂=>∀ a,H₂ a=none->Q (.ref a) (H₂.set a (.list acc))
      | none=>False) {A:Around} (r:Room k A) (o:EnvOK fi env) (R:Rep G H s) (F:FrR G fi env H ρ s) :
    wpAny (model G.prog G.w) A (comprehension (.ListComp elt [⟨target,iter,ifs,0⟩] scope pos) scope env ps (newList []) false (eval iter env) (some (assign (.Name y py) env))) (fun uu s'=>UseR G fi env H s ρ iy Q s') F0 s:=by
  refine compOk_e (P:=fun target=>wpAny (model G.prog G.w) A (comprehension (.ListComp elt [⟨target,iter,ifs,0⟩] scope pos) scope env ps (newList []) false (eval iter env) (some (assign (.Name y py) env))) (fun uu s'=>UseR G fi env H s ρ iy Q s') F0 s) hc fun x px c1 c2 c3 c4=>?_
  obtain ⟨cl,g1,g2,g3,g4⟩:=comp_frame o F c1 c2 c3
  refine wpAny_comprehension_free (use:=some (assign (.Name y py) env)) rfl (notSet_plain hs env) g1 c3 (fun x hx h=>lookup_of_mem c2 hx h) (PA.then (hit A env s r o R F) fun xv H₁ v s₁ st1 R1 e1 q1=>optL q1 fun all hall q1=>?_)
  refine comp_core o R1 (F.step R st1) g2 g4 c3 (o₀:=.list []) (fun q=>wpAny_newObj_type q) (fun h=>⟨#[],0,Heap.get?_push_size _ rfl,rfl⟩) e1 hall (RR:=fun acc C=>compPost (model G.prog G.w) A F0 (some (assign (.Name y py) env)) (fun uu s'=>UseR G fi env H s ρ iy Q s') acc C) fun I D C s₄ f c=>?_
  have loop:=comp_loop (elt:=elt) (iter:=iter) (ifs:=ifs) (scope:=scope) (pos:=pos) (px:=px) (RR:=compPost (model G.prog G.w) A F0 (some (assign (.Name y py) env)) (fun uu s'=>UseR G fi env H s ρ iy Q s') (.ref D) C) r (g3 C) (relab_local c4) ht he f
    (fun H₂ s' acc z hK=>comp_use_give o hy st1 R1 (F.step R st1) f.fD f.fC f.dc z hK) c q1
  exact codeAny_compStart_list loop (iter_self c.K f.nn loop)
end Mine
end
section
open PySem PySem.W PyProof.Rows PySem.SeqAt PySem.Calls
set_option maxRecDepth 100000
set_option maxHeartbeats 8000000
namespace Mine
variable {G:GC}
noncomputable def FnVal (G:GC) (f:String) (a:Addr):Prop :=
  (f ≠ "__init__" /\ G.mg (Str.ofString f)=some (.ref a)) \/ (f = "__init__" /\ ∃ N mN,ClsAt G.g₀ G.C N mN/\mN "__init__" = some (.ref a))
inductive FnR (h:Heap) (fn:Fn) (a:Addr):Prop
  | mk (o:Obj) (fd:FuncData) (body:List Stmt) (e:h.get? a=some o) (c:o.cls = .type "function") (d:o.data = .func fd) (b:fd.body = .stmts body) (k:chkF fn fd.params body fd.scope=true) (r:h.CodeRec fd.code fd.qualname) (g:fd.globals=mainGlobals) (cl:fd.closure=[]) (bi:fd.builtins=builtinsNs) (de:fd.defaults = .none)
structure GOK2 (G:GC):Prop where
  base:GOK G
  gints:∀ x i,(x,i) ∈ globTab->∃ t,G.mg (Str.ofString x)=some (.int i t)
  bis:∀ f ∈ biNames,G.mg (Str.ofString f)=none/\G.mb (Str.ofString f)=some (if f = "range" \/ f = "list" \/ f = "dict" then .type f else .builtin f)
  zip:G.mg (Str.ofString "zip")=none/\G.mb (Str.ofString "zip")=some (.type "zip")
  cl:G.mg (Str.ofString "ObjectFile")=some (.ref G.C)
  fns:∀ p ∈ fnsL,∃ a,FnVal G p.1 a/\FnR G.g₀ p.2 a
  initU:∀ a a',FnVal G "__init__" a->FnVal G "__init__" a'->a=a'
noncomputable def CallSem (G:GC) (k:Nat) (f:String) (vs:List V) (H:AH) (Q:V->AH->Prop):Prop :=
  ∀ a A s ws,FnVal G f a->RoomC k A->Rep G H s->RepVs G.X s.heap vs ws->wpAny (model G.prog G.w) A (call (.ref a) ws) (PV G H s Q) F0 s
section
variable {fi:FI} {ρ:Env} {H:AH} {k:Nat}
theorem kindG {env:PySem.Env} (o:EnvOK fi env) {x:Str} (h:isG fi x=true):env.kindOf x=some .globalImplicit/\(x == ("__debug__" : Str))=false:=by
  obtain ⟨h1,h2⟩:=Bool.and_eq_true_iff.mp h
  refine ⟨?_,by simpa using h2⟩
  show env.scope.names.lookup x=_; rw [o.names]; exact beq_iff_eq.mp h1
theorem loadG (gk:GOK2 G) {A:Around} {env:PySem.Env} {s:Shared} {x:Str} {pos:Pos} {v:Value} {Q:Value->Shared->Prop} {E:Value->Shared->Prop} (o:EnvOK fi env) (R:Rep G H s) (h:isG fi x=true) (hv:G.mg x=some v) (q:Q v s) :
    wpAny (model G.prog G.w) A (eval (.Name x pos) env) Q E s :=
  Name_function_global o.kind (kindG o h).1 (loadGlobal_global (o.globals ▸ gk.base.g.keeps R.ground) hv q) (kindG o h).2
theorem loadB (gk:GOK2 G) {A:Around} {env:PySem.Env} {s:Shared} {x:Str} {pos:Pos} {v:Value} {Q:Value->Shared->Prop} {E:Value->Shared->Prop} (o:EnvOK fi env) (R:Rep G H s) (h:isG fi x=true) (hn:G.mg x=none) (hv:G.mb x=some v) (q:Q v s) :
    wpAny (model G.prog G.w) A (eval (.Name x pos) env) Q E s :=
  Name_function_global o.kind (kindG o h).1 (loadGlobal_builtin (o.globals ▸ gk.base.g.keeps R.ground) hn (o.builtins ▸ gk.base.b.keeps R.ground) hv q) (kindG o h).2
theorem starEach_cons {e:PE} {r:List PE} {env:PySem.Env} (h:notStar e=true):starEach (e::r) env=(false,eval e env)::starEach r env:=by
  rcases e with ⟨⟩ <;> first | exact rfl | exact absurd h Bool.false_ne_true
noncomputable def WEsP (G:GC) (fi:FI) (k:Nat) (es:List PE) (ρ:Env) (H:AH) (Q:List V->AH->Prop):Prop :=
  ∀ A env s pos,Room k A->EnvOK fi env->Rep G H s->FrR G fi env H ρ s->wpAny (model G.prog G.w) A (spliced (backTo pos (starEach es env))) (PA G (RepVs G.X) H s Q) F0 s
theorem chkEs_c {m:ME} {ms:List ME} {P:List PE->Prop}:∀ {es:List PE},chkEs fi (m::ms) es=true->(∀ e r,notStar e=true->chkE fi m e=true->chkEs fi ms r=true->P (e::r))->P es
  | [],h,_=>absurd h Bool.false_ne_true
  | e::r,h,k=>by
    have h:=Bool.and_eq_true_iff.mp h
    have h1:=Bool.and_eq_true_iff.mp h.1
    exact k e r h1.1 h1.2 h.2
theorem chkEs_n {P:List PE->Prop}:∀ {es:List PE},chkEs fi [] es=true->P []->P es
  | [],_,k=>k
  | _::_,h,_=>absurd h Bool.false_ne_true
theorem plainArgs {env:PySem.Env} {pos:Pos}:∀ {ms:List ME} {es:List PE},chkEs fi ms es=true->(backTo pos (starEach es env)).any (·.1)=false
  | [],es,h=>chkEs_n (P:=fun es=>(backTo pos (starEach es env)).any (·.1)=false) h rfl
  | m::ms,es,h=>chkEs_c (P:=fun es=>(backTo pos (starEach es env)).any (·.1)=false) h fun e r h1 uu h3=>by
    rw [starEach_cons h1]
    exact plainArgs h3
theorem callWith_machine {M:Model} {A:Around} {E:Value->Shared->Prop} {s:Shared} {f:Value} {pos:Pos} {first:List Value} {args:List (Bool × Sem Value)} {Q:Value->Shared->Prop} (hf:keeperOf f=pure .machine) (hp:args.any (·.1)=false)
    (h:wpAny M A (spliced args) (fun vs s₁=>wpAny M A (call f (first ++ vs)) Q E s₁) E s):wpAny M A (callWith pos f first args []) Q E s:=by
  unfold callWith
  refine wpAny_bind (wpAny_holding (evalArgs_any hp (wpAny_mono h (fun a s₁ h₁=>wpAny_bind (wpAny_standAt ?_)) fun uu uu x=>x)))
  simp only [hp,List.any_nil,Bool.or_false,hf]
  refine wpAny_bind (wpAny_pure ?_)
  exact wpAny_bind (wpAny_mono h₁ (fun r s₂ hr=>wpAny_bind (wpAny_holding (wpAny_point (wpAny_pure hr)))) fun uu uu x=>x)
theorem PA.lift2 {α β:Type} {M:Model} {A:Around} {t:Sem α} {rel:Heap->β->α->Prop} {H H₁:AH} {s s₁:Shared} {Q:β->AH->Prop}
    (h:wpAny M A t (PA G rel H₁ s₁ Q) F0 s₁) (x:Step H s H₁ s₁):wpAny M A t (PA G rel H s Q) F0 s₁:=wpAny_mono h (fun uu uu z=>z.lift x) fun uu uu z=>z
theorem nmGet {i:Nat} {x:Str} (h:nmOk fi i x=true):∃ k,fi[i]? = some (x,k)/\(k = .local \/ k = .cell)/\(x == ("__debug__" : Str))=false:=by
  unfold nmOk at h
  revert h
  rcases fi[i]? with uu | ⟨y,kd⟩
  · exact fun h=>absurd h Bool.false_ne_true
  · intro h
    simp only [Bool.and_eq_true,Bool.or_eq_true,beq_iff_eq,Bool.not_eq_true'] at h
    exact ⟨kd,h.1.1 ▸ rfl,h.1.2,h.2⟩
theorem chkEs_len:∀ {ms:List ME} {es:List PE},chkEs fi ms es=true->ms.length=es.length
  | [],es,h=>chkEs_n (P:=fun es=>([]:List ME).length=es.length) h rfl
  | m::ms,es,h=>chkEs_c (P:=fun es=>(m::ms).length=es.length) h fun e r uu uu h3=>congrArg (· + 1) (chkEs_len h3)
theorem RepVs.cons' {X:Addr->Prop} {h:Heap} {x:V} {xs:List V} {v:Value} {vs:List Value} (e:RepV X h x v) (r:RepVs X h xs vs):RepVs X h (x::xs) (v::vs):=⟨v,vs,rfl,e,r⟩
theorem base_plain {e:PE} {n:Str} {env:PySem.Env} (h:baseOk e=true) (t:Sem Value):attributeBase e n env t=t:=by
  rcases e with ⟨⟩ <;> first | exact rfl | exact absurd h Bool.false_ne_true
theorem sub_plain {y:PE} (h:notSlice y=true) (o i:Value):subscripted y false o i=operate [o,i] (getItem o i):=by
  rcases y with ⟨⟩ <;> first | exact rfl | exact absurd h Bool.false_ne_true
theorem isTrue_of {A:Around} {env:PySem.Env} {s:Shared} {e:PE} {Q:Bool->AH->Prop} (hs:isTrue e env (eval e env)=(do let v <- eval e env; standAt e.pos; holding [v] (truthy v)))
    (h:wpAny (model G.prog G.w) A (eval e env) (PV G H s fun v H'=>match truthF v H' with | some b=>Q b H' | none=>False) F0 s):wpAny (model G.prog G.w) A (isTrue e env (eval e env)) (PB G H s Q) F0 s :=
  isTrue_plain (PA.then h fun v H₁ x s₁ st R1 e1 q=>optB q fun b hb q=>PA.lift2 (truth_sound R1 e1 hb q) st) hs
theorem ifs_false {env:PySem.Env}:∀ (es:List PE),(forIn es false fun c ok=>if ok=true then do let b <- isTrue c env (eval c env); pure (ForInStep.yield b) else pure (ForInStep.yield ok):Sem Bool)=pure false
  | []=>rfl
  | e::es=>by
    rw [List.forIn_cons]
    rw [if_neg (by decide)]
    rw [pure_bind]
    exact ifs_false es
theorem ifs_cons {env:PySem.Env} {e:PE} {es:List PE}:(forIn (e::es) true fun c ok=>if ok=true then do let b <- isTrue c env (eval c env); pure (ForInStep.yield b) else pure (ForInStep.yield ok):Sem Bool) =
    (do let b <- isTrue e env (eval e env); forIn es b fun c ok=>if ok=true then do let b <- isTrue c env (eval c env); pure (ForInStep.yield b) else pure (ForInStep.yield ok)):=by
  rw [List.forIn_cons,if_pos rfl,bind_assoc]
  congr 1
theorem ofString_nodup:∀ {ks:List String},ks.Nodup->(ks.map Str.ofString).Nodup
  | [],_=>List.nodup_nil
  | k::ks,h=>by
    rw [List.nodup_cons] at h
    rw [List.map_cons,List.nodup_cons]
    refine ⟨fun m=>?_,ofString_nodup h.2⟩
    obtain ⟨k',h1,h2⟩:=List.mem_map.mp m
    exact h.1 (ofString_inj h2 ▸ h1)
theorem isInt_e {i:Int} {c:Const} {P:Const->Prop} (h:isInt i c=true) (k:P (.int i)):P c:=by
  rcases c with ⟨⟩ <;> first | exact absurd h Bool.false_ne_true | exact beq_iff_eq.mp h ▸ k
theorem isStrC_e {x:String} {c:Const} {P:Const->Prop} (h:isStrC x c=true) (k:P (.str (Str.ofString x))):P c:=by
  rcases c with ⟨⟩ <;> first | exact absurd h Bool.false_ne_true | exact beq_iff_eq.mp h ▸ k
theorem isBoolC_e {b:Bool} {c:Const} {P:Const->Prop} (h:isBoolC b c=true) (k:P (.bool b)):P c:=by
  rcases c with ⟨⟩ <;> first | exact absurd h Bool.false_ne_true | exact beq_iff_eq.mp h ▸ k
theorem isNoneC_e {c:Const} {P:Const->Prop} (h:isNoneC c=true) (k:P .none):P c:=by
  rcases c with ⟨⟩ <;> first | exact absurd h Bool.false_ne_true | exact k
theorem keysOk_c {x:String} {xs:List String} {P:List (Option PE)->Prop}:∀ {ks:List (Option PE)},keysOk (x::xs) ks=true->(∀ n p r,keysOk xs r=true->P (some (.Constant (.str (Str.ofString x)) n p)::r))->P ks
  | [],h,_=>absurd h Bool.false_ne_true
  | none::r,h,_=>absurd h Bool.false_ne_true
  | some e::r,h,k=>by
    have h:=Bool.and_eq_true_iff.mp h
    exact as_e (P:=fun e=>P (some e::r)) asConst_b h.1 fun c hc=>isStrC_e (P:=fun c1=>P (some (.Constant c1 c.2.1 c.2.2)::r)) hc (k _ _ r h.2)
theorem keysOk_n {P:List (Option PE)->Prop}:∀ {ks:List (Option PE)},keysOk [] ks=true->P []->P ks
  | [],_,k=>k
  | _::_,h,_=>absurd h Bool.false_ne_true
theorem keysOk_some:∀ {ks:List String} {keys:List (Option PE)},keysOk ks keys=true->keys.all (·.isSome)=true
  | [],keys,h=>keysOk_n (P:=fun keys=>keys.all (·.isSome)=true) h rfl
  | k::ks,keys,h=>keysOk_c (P:=fun keys=>keys.all (·.isSome)=true) h fun n p r h=>keysOk_some (keys:=r) h
end
end Mine
end
section
open PySem PySem.W PyProof.Rows PySem.SeqAt PySem.Calls
set_option maxRecDepth 100000
set_option maxHeartbeats 8000000
namespace Mine
noncomputable def SE (C:Cl) (k:Nat) (G:GC) (m:ME):Prop:=∀ fi e,chkE fi m e=true->∀ ρ H Q,wpE C m ρ H Q->WE G fi k e ρ H Q
noncomputable def ST (C:Cl) (k:Nat) (G:GC) (m:ME):Prop:=∀ fi e,chkE fi m e=true->∀ ρ H Q,wpT C m ρ H Q->WT G fi k e ρ H Q
structure SX (C:Cl) (k:Nat) (G:GC) (m:ME):Prop where
  e:SE C k G m
  t:ST C k G m
noncomputable def WB (G:GC) (fi:FI) (k:Nat) (op:BoolOp) (es:List PE) (ρ:Env) (H:AH) (Q:V->AH->Prop):Prop :=
  ∀ A env s pos,Room k A->EnvOK fi env->Rep G H s->FrR G fi env H ρ s->wpAny (model G.prog G.w) A (boolOp pos op (evalEach es env)) (PV G H s Q) F0 s
noncomputable def WBT (G:GC) (fi:FI) (k:Nat) (op:BoolOp) (es:List PE) (ρ:Env) (H:AH) (Q:Bool->AH->Prop):Prop :=
  ∀ A env s,Room k A->EnvOK fi env->Rep G H s->FrR G fi env H ρ s->wpAny (model G.prog G.w) A (allTrue op es env) (PB G H s Q) F0 s
noncomputable def WI (G:GC) (fi:FI) (k:Nat) (es:List PE) (ρ:Env) (H:AH) (Q:Bool->AH->Prop):Prop :=
  ∀ A env s,Room k A->EnvOK fi env->Rep G H s->FrR G fi env H ρ s ->
    wpAny (model G.prog G.w) A (forIn es true fun c ok=>if ok=true then do let b <- isTrue c env (eval c env); pure (ForInStep.yield b) else pure (ForInStep.yield ok)) (PB G H s Q) F0 s
structure WC (G:GC) (fi:FI) (k:Nat) (os:List CmpOp) (es:List PE) (x:V) (ρ:Env) (H:AH) (Q:Bool->AH->Prop):Prop where
  v:∀ Q':V->AH->Prop,(∀ b H',Q b H'->Q' (.bool b) H')->∀ A env s v pos,Room k A->EnvOK fi env->Rep G H s->FrR G fi env H ρ s->RepV G.X s.heap x v->wpAny (model G.prog G.w) A (compareChain pos v os (evalEach es env)) (PV G H s Q') F0 s
  t:∀ A env s v pos,Room k A->EnvOK fi env->Rep G H s->FrR G fi env H ρ s->RepV G.X s.heap x v->wpAny (model G.prog G.w) A (testChain pos v os (evalEach es env)) (PB G H s Q) F0 s
noncomputable def WP (G:GC) (fi:FI) (k:Nat) (n:Nat) (ks:List String) (keys:List (Option PE)) (es:List PE) (ρ:Env) (H:AH) (Q:List V->AH->Prop):Prop :=
  ∀ A env s pos,Room k A->EnvOK fi env->Rep G H s->FrR G fi env H ρ s->wpAny (model G.prog G.w) A (evalPairs (pairTrees keys es env pos))
      (fun ps s'=>∃ vs H' kvs,Step H s H' s'/\Rep G H' s'/\Carries (PySem.strKind G.prog G.w) ps kvs/\kvs.map (·.1)=ks.map Str.ofString/\RepVs G.X s'.heap vs (kvs.map (·.2))/\vs.length=n/\Q vs H') F0 s
structure SL (C:Cl) (k:Nat) (G:GC) (ms:List ME):Prop where
  es:∀ fi es,chkEs fi ms es=true->∀ ρ H Q,wpEs C ms ρ H Q->WEsP G fi k es ρ H fun vs H'=>vs.length=ms.length/\Q vs H'
  and:∀ fi es,chkEs fi ms es=true->∀ ρ H Q,wpAnd C ms ρ H Q->WB G fi k .And es ρ H Q
  or:∀ fi es,chkEs fi ms es=true->∀ ρ H Q,wpOr C ms ρ H Q->WB G fi k .Or es ρ H Q
  andT:∀ fi es,chkEs fi ms es=true->∀ ρ H Q,wpAndT C ms ρ H Q->WBT G fi k .And es ρ H Q
  orT:∀ fi es,chkEs fi ms es=true->∀ ρ H Q,wpOrT C ms ρ H Q->WBT G fi k .Or es ρ H Q
  ifs:∀ fi es,chkEs fi ms es=true->∀ ρ H Q,wpIfs C ms ρ H Q->WI G fi k es ρ H Q
  c:∀ fi es,chkEs fi ms es=true->∀ x ops os,opsOk ops os=true->∀ ρ H Q,wpC C x ops ms ρ H Q->WC G fi k os es x ρ H Q
  ps:∀ fi es,chkEs fi ms es=true->∀ ks keys,keysOk ks keys=true->keys.length=es.length->∀ ρ H Q,wpEs C ms ρ H Q->WP G fi k ms.length ks keys es ρ H Q
section
variable {C:Cl} {k:Nat} {G:GC} (hC:∀ f vs H Q,C f vs H Q->CallSem G k f vs H Q) (gk:GOK2 G)
variable {a b:ME} {es:List ME} {fi:FI}
theorem sT_of {m:ME} (h:SE C k G m) (hw:∀ ρ H (Q:Bool->AH->Prop),wpT C m ρ H Q->wpE C m ρ H fun v H'=>match truthF v H' with | some b=>Q b H' | none=>False)
    (hs:∀ fi e env,chkE fi m e=true->isTrue e env (eval e env)=(do let v <- eval e env; standAt e.pos; holding [v] (truthy v))):ST C k G m :=
  fun fi e hc ρ H Q w A env s r o R F=>isTrue_of (hs fi e env hc) (h fi e hc ρ H _ (hw ρ H Q w) A env s r o R F)
theorem no_T {m:ME} (h:SE C k G m) (hw:∀ ρ H (Q:Bool->AH->Prop),wpT C m ρ H Q=False):SX C k G m:=⟨h,fun fi e hc ρ H Q w=>((hw ρ H Q).mp w).elim⟩
theorem cVarE (i:Nat):SE C k G (.var i):=fun fi e h ρ H Q w=>as_e (P:=fun e=>WE G fi k e ρ H Q) asName_b h fun t h=>by
  obtain ⟨kd,e1,e2,e3⟩:=nmGet h
  exact optV w fun v hv w=>WE.var e3 e1 (e2.imp id .inl) hv w
theorem cVar (i:Nat):SX C k G (.var i):=⟨cVarE i,sT_of (cVarE i) (fun uu uu uu w=>w) fun fi e env h=>as_e (P:=fun e=>isTrue e env (eval e env)=(do let v <- eval e env; standAt e.pos; holding [v] (truthy v))) asName_b h fun uu uu=>rfl⟩
theorem cInt (i:Int):SX C k G (.int i):=no_T (fun fi e h ρ H Q w=>as_e (P:=fun e=>WE G fi k e ρ H Q) asConst_b h fun t h=>isInt_e (P:=fun c=>WE G fi k (.Constant c t.2.1 t.2.2) ρ H Q) h (WE.int w)) fun uu uu uu=>rfl
theorem cStr (x:String):SX C k G (.str x):=no_T (fun fi e h ρ H Q w=>as_e (P:=fun e=>WE G fi k e ρ H Q) asConst_b h fun t h=>isStrC_e (P:=fun c=>WE G fi k (.Constant c t.2.1 t.2.2) ρ H Q) h (WE.str w)) fun uu uu uu=>rfl
theorem cBool (b:Bool):SX C k G (.bool b):=no_T (fun fi e h ρ H Q w=>as_e (P:=fun e=>WE G fi k e ρ H Q) asConst_b h fun t h=>isBoolC_e (P:=fun c=>WE G fi k (.Constant c t.2.1 t.2.2) ρ H Q) h (WE.bool w)) fun uu uu uu=>rfl
theorem cNone:SX C k G .none:=no_T (fun fi e h ρ H Q w=>as_e (P:=fun e=>WE G fi k e ρ H Q) asConst_b h fun t h=>isNoneC_e (P:=fun c=>WE G fi k (.Constant c t.2.1 t.2.2) ρ H Q) h (WE.none w)) fun uu uu uu=>rfl
include gk in
theorem cGlob (x:String) (i:Int):SX C k G (.glob x i):=no_T (fun fi e h ρ H Q w=>as_e (P:=fun e=>WE G fi k e ρ H Q) asName_b h fun t h=>by
  have h:=Bool.and_eq_true_iff.mp h
  have h1:=Bool.and_eq_true_iff.mp h.1
  obtain ⟨u,hu⟩:=gk.gints x i (List.contains_iff_mem.mp h.2)
  exact fun A env s r o R F=>loadG gk o R h1.2 (beq_iff_eq.mp h1.1 ▸ hu) (PA.same R rInt w)) fun uu uu uu=>rfl
include gk in
theorem cBin (op:BOp) (ha:SX C k G a) (hb:SX C k G b):SX C k G (.bin op a b):=no_T (fun fi e h ρ H Q w=>as_e (P:=fun e=>WE G fi k e ρ H Q) asBin_b h fun t h=>by
  have h:=Bool.and_eq_true_iff.mp h
  have h1:=Bool.and_eq_true_iff.mp h.1
  exact fun A env s r o R F=>wpAny_BinOp (PA.then (ha.e fi _ h1.2 ρ H _ w A env s r o R F) fun x H₁ v s₁ st1 R1 e1 q1=>PA.then (hb.e fi _ h.2 ρ H₁ _ q1 A env s₁ r o R1 (F.step R st1)) fun y H₂ u s₂ st2 R2 e2 q2=>
    optR q2 fun rr hb q2=>PA.lift2 (bin_sound gk.base r R2 h1.1 (e1.step R1 st2) e2 hb q2) (st1.trans st2))) fun uu uu uu=>rfl
theorem cNeg (ha:SX C k G a):SX C k G (.neg a):=no_T (fun fi e h ρ H Q w=>as_e (P:=fun e=>WE G fi k e ρ H Q) asUn_b h fun t h=>by
  have h:=Bool.and_eq_true_iff.mp h
  refine eq_e (P:=fun o=>WE G fi k (.UnaryOp o t.2.1 t.2.2) ρ H Q) (beq_iff_eq.mp h.1) fun A env s r o R F=>wpAny_UnaryOp (PA.then (ha.e fi _ h.2 ρ H _ w A env s r o R F) fun x H₁ v s₁ st1 R1 e1 q1=>?_)
  rcases x with uu | uu | i
  case int=>exact e1.elim fun t h=>h ▸ PyProof.Rows.neg_int ((PA.val R1 rInt q1).lift st1)
  all_goals exact q1.elim) fun uu uu uu=>rfl
theorem cInv (ha:SX C k G a):SX C k G (.inv a):=no_T (fun fi e h ρ H Q w=>as_e (P:=fun e=>WE G fi k e ρ H Q) asUn_b h fun t h=>by
  have h:=Bool.and_eq_true_iff.mp h
  refine eq_e (P:=fun o=>WE G fi k (.UnaryOp o t.2.1 t.2.2) ρ H Q) (beq_iff_eq.mp h.1) fun A env s r o R F=>wpAny_UnaryOp (PA.then (ha.e fi _ h.2 ρ H _ w A env s r o R F) fun x H₁ v s₁ st1 R1 e1 q1=>?_)
  rcases x with uu | uu | i
  case int=>exact e1.elim fun t h=>h ▸ PyProof.Rows.invert_int ((PA.val R1 rInt q1).lift st1)
  all_goals exact q1.elim) fun uu uu uu=>rfl
theorem cNot (ha:SX C k G a):SX C k G (.not a):=by
  constructor
  · refine fun fi e h ρ H Q w=>as_e (P:=fun e=>WE G fi k e ρ H Q) asUn_b h fun t h=>?_
    have h:=Bool.and_eq_true_iff.mp h
    exact eq_e (P:=fun o=>WE G fi k (.UnaryOp o t.2.1 t.2.2) ρ H Q) (beq_iff_eq.mp h.1) fun A env s r o R F=>wpAny_UnaryOp (PA.then (ha.e fi _ h.2 ρ H _ w A env s r o R F) fun x H₁ v s₁ st1 R1 e1 q1=>
      not_of (optB q1 fun b hb q1=>PA.then (truth_sound (Q:=fun c H'=>Q (.bool (!c)) H') R1 e1 hb q1) fun b' H' c s' st R' e z=>⟨_,H',st1.trans st,R',e ▸ rBool,z⟩))
  · refine fun fi e h ρ H Q w=>as_e (P:=fun e=>WT G fi k e ρ H Q) asUn_b h fun t h=>?_
    have h:=Bool.and_eq_true_iff.mp h
    exact eq_e (P:=fun o=>WT G fi k (.UnaryOp o t.2.1 t.2.2) ρ H Q) (beq_iff_eq.mp h.1) fun A env s r o R F=>isTrue_not (PA.then (ha.t fi _ h.2 ρ H _ w A env s r o R F) fun b H₁ c s₁ st1 R1 e1 q1=>
      ⟨!b,H₁,st1,R1,e1 ▸ rfl,q1⟩)
theorem cAnd (hs:SL C k G es):SX C k G (.and es):=by
  constructor
  · refine fun fi e h ρ H Q w=>as_e (P:=fun e=>WE G fi k e ρ H Q) asBool_b h fun t h=>?_
    have h:=Bool.and_eq_true_iff.mp h
    exact eq_e (P:=fun o=>WE G fi k (.BoolOp o t.2.1 t.2.2) ρ H Q) (beq_iff_eq.mp h.1) fun A env s r o R F=>by rw [arm_eval_BoolOp]; exact hs.and fi _ h.2 ρ H Q w A env s _ r o R F
  · refine fun fi e h ρ H Q w=>as_e (P:=fun e=>WT G fi k e ρ H Q) asBool_b h fun t h=>?_
    have h:=Bool.and_eq_true_iff.mp h
    exact eq_e (P:=fun o=>WT G fi k (.BoolOp o t.2.1 t.2.2) ρ H Q) (beq_iff_eq.mp h.1) fun A env s r o R F=>wpAny_isTrue_BoolOp (hs.andT fi _ h.2 ρ H Q w A env s r o R F)
theorem cOr (hs:SL C k G es):SX C k G (.or es):=by
  constructor
  · refine fun fi e h ρ H Q w=>as_e (P:=fun e=>WE G fi k e ρ H Q) asBool_b h fun t h=>?_
    have h:=Bool.and_eq_true_iff.mp h
    exact eq_e (P:=fun o=>WE G fi k (.BoolOp o t.2.1 t.2.2) ρ H Q) (beq_iff_eq.mp h.1) fun A env s r o R F=>by rw [arm_eval_BoolOp]; exact hs.or fi _ h.2 ρ H Q w A env s _ r o R F
  · refine fun fi e h ρ H Q w=>as_e (P:=fun e=>WT G fi k e ρ H Q) asBool_b h fun t h=>?_
    have h:=Bool.and_eq_true_iff.mp h
    exact eq_e (P:=fun o=>WT G fi k (.BoolOp o t.2.1 t.2.2) ρ H Q) (beq_iff_eq.mp h.1) fun A env s r o R F=>wpAny_isTrue_BoolOp (hs.orT fi _ h.2 ρ H Q w A env s r o R F)
theorem cCmp (ops:List COp) (ha:SX C k G a) (hs:SL C k G es):SX C k G (.cmp a ops es):=by
  constructor
  · refine fun fi e h ρ H Q w=>as_e (P:=fun e=>WE G fi k e ρ H Q) asCmp_b h fun t h=>?_
    have h:=Bool.and_eq_true_iff.mp h
    have h1:=Bool.and_eq_true_iff.mp h.1
    have h2:=Bool.and_eq_true_iff.mp h1.1
    refine fun A env s r o R F=>?_
    show wpAny _ A (do compareChain t.2.2.2 (<- eval t.1 env) t.2.1 (markedEach t.2.1 t.2.2.1 (evalEach t.2.2.1 env))) _ _ _
    rw [markedEach_of_false _ _ _ (Bool.not_eq_true' _ ▸ h.2)]
    exact wpAny_bind (PA.then (ha.e fi _ h2.1 ρ H _ w A env s r o R F) fun x H₁ v s₁ st1 R1 e1 q1=>
      PA.lift2 ((hs.c fi _ h1.2 x ops _ h2.2 ρ H₁ _ q1).v _ (fun b H' z=>z) A env s₁ v _ r o R1 (F.step R st1) e1) st1)
  · refine fun fi e h ρ H Q w=>as_e (P:=fun e=>WT G fi k e ρ H Q) asCmp_b h fun t h=>?_
    have h:=Bool.and_eq_true_iff.mp h
    have h1:=Bool.and_eq_true_iff.mp h.1
    have h2:=Bool.and_eq_true_iff.mp h1.1
    refine fun A env s r o R F=>?_
    rw [arm_isTrue_Compare,markedEach_of_false _ _ _ (Bool.not_eq_true' _ ▸ h.2)]
    exact wpAny_bind (PA.then (ha.e fi _ h2.1 ρ H _ w A env s r o R F) fun x H₁ v s₁ st1 R1 e1 q1=>
      PA.lift2 ((hs.c fi _ h1.2 x ops _ h2.2 ρ H₁ _ q1).t A env s₁ v _ r o R1 (F.step R st1) e1) st1)
theorem cIte {t:ME} (ht:SX C k G t) (ha:SX C k G a) (hb:SX C k G b):SX C k G (.ite t a b):=no_T (fun fi e h ρ H Q w=>as_e (P:=fun e=>WE G fi k e ρ H Q) asIf_b h fun u h=>by
  have h:=Bool.and_eq_true_iff.mp h
  have h1:=Bool.and_eq_true_iff.mp h.1
  exact fun A env s r o R F=>wpAny_IfExp (PA.then (ht.t fi _ h1.1 ρ H _ w A env s r o R F) fun c H₁ v s₁ st1 R1 e1 q1=>by
    subst e1
    rcases c with uu | uu
    · exact PA.lift2 (hb.e fi _ h.2 ρ H₁ _ q1 A env s₁ r o R1 (F.step R st1)) st1
    · exact PA.lift2 (ha.e fi _ h1.2 ρ H₁ _ q1 A env s₁ r o R1 (F.step R st1)) st1)) fun uu uu uu=>rfl
section
variable {args:List ME}
theorem name_e {f:PE} {x:String} {P:PE->Prop} (h:((asName f).any fun y=>y.1 == Str.ofString x && isG fi y.1)=true) (k:∀ p,isG fi (Str.ofString x)=true->P (.Name (Str.ofString x) p)):P f :=
  as_e asName_b h fun t h=>by
    have h:=Bool.and_eq_true_iff.mp h
    have e:=beq_iff_eq.mp h.1
    exact e ▸ k t.2 (e ▸ h.2)
include hC gk in
theorem cCall (f:String) (hs:SL C k G args):SX C k G (.call f args):=by
  have hE:SE C k G (.call f args):=fun fi e h ρ H Q w=>as_e (P:=fun e=>WE G fi k e ρ H Q) asCall_b h fun t h=>by
    have h:=Bool.and_eq_true_iff.mp h
    have h1:=Bool.and_eq_true_iff.mp h.1
    have h2:=Bool.and_eq_true_iff.mp h1.1
    refine nil_e (P:=fun kw=>WE G fi k (.Call t.1 t.2.1 kw t.2.2.2) ρ H Q) h2.1 (name_e (P:=fun fe=>WE G fi k (.Call fe t.2.1 [] t.2.2.2) ρ H Q) h2.2 fun p hg=>?_)
    obtain ⟨hm,hne⟩:=List.mem_filter.mp (List.contains_iff_mem.mp h1.2)
    obtain ⟨⟨f',fn⟩,hx,rfl⟩:=List.mem_map.mp hm
    obtain ⟨a,b1,⟨ob,fd,uu,b2,b3,b4,uu,uu,uu,uu,uu,uu,uu⟩⟩:=gk.fns _ hx
    have b5:G.mg (Str.ofString f')=some (.ref a):=b1.elim (·.2) fun b1=>absurd b1.1 (by simpa using hne)
    exact fun A env s r o R F=>wpAny_Call_ofName (loadG gk o R hg b5 (callWith_function_kw (o:=ob) (fd:=fd) (evalArgs_any (plainArgs h.2) (PA.then (hs.es fi _ h.2 ρ H _ w A env s _ r o R F) fun vs H₁ ws s₁ st1 R1 e1 q1=>
      ⟨⟨R1.ground _ _ b2,b4⟩,PA.lift2 (hC f' vs H₁ Q q1.2 a A s₁ ws b1 r.c R1 e1) st1⟩))))
  exact ⟨hE,sT_of hE (fun uu uu uu w=>w) fun fi e env h=>as_e (P:=fun e=>isTrue e env (eval e env)=(do let v <- eval e env; standAt e.pos; holding [v] (truthy v))) asCall_b h fun uu uu=>rfl⟩
include gk in
theorem cBi (f:String) (hs:SL C k G args):SX C k G (.bi f args):=no_T (fun fi e h ρ H Q w=>as_e (P:=fun e=>WE G fi k e ρ H Q) asCall_b h fun t h=>by
    have h:=Bool.and_eq_true_iff.mp h
    have h1:=Bool.and_eq_true_iff.mp h.1
    have h2:=Bool.and_eq_true_iff.mp h1.1
    refine nil_e (P:=fun kw=>WE G fi k (.Call t.1 t.2.1 kw t.2.2.2) ρ H Q) h2.1 (name_e (P:=fun fe=>WE G fi k (.Call fe t.2.1 [] t.2.2.2) ρ H Q) h2.2 fun p hg=>?_)
    obtain ⟨b1,b2⟩:=gk.bis f (List.contains_iff_mem.mp h1.2)
    exact fun A env s r o R F=>wpAny_Call_ofName (loadB gk o R hg b1 b2 (callWith_machine (by split <;> rfl) (plainArgs h.2) (PA.then (hs.es fi _ h.2 ρ H _ w A env s _ r o R F) fun vs H₁ ws s₁ st1 R1 e1 q1=>
      optR q1.2 fun rr hb q1=>PA.lift2 (bi_call gk.base r R1 e1 hb q1) st1)))) fun uu uu uu=>rfl
theorem line_ok {p:Pos} {as:List PE} {env:PySem.Env} (h:((backTo p (starEach as env)).any (·.1))=false):(backTo p (starEach as env)).all (fun x=>!x.1)=true :=
  List.all_eq_true.mpr fun z hz=>by simpa using List.any_eq_false.mp h z hz
include gk in
theorem cMeth (m:String) (ha:SX C k G a) (hs:SL C k G args):SX C k G (.meth a m args):=no_T (fun fi e h ρ H Q w=>as_e (P:=fun e=>WE G fi k e ρ H Q) asCall_b h fun t h=>by
    have h:=Bool.and_eq_true_iff.mp h
    have h1:=Bool.and_eq_true_iff.mp h.1
    have h2:=Bool.and_eq_true_iff.mp h1.1
    have h3:=Bool.and_eq_true_iff.mp h2.1
    refine nil_e (P:=fun kw=>WE G fi k (.Call t.1 t.2.1 kw t.2.2.2) ρ H Q) h3.1 (as_e (P:=fun fe=>WE G fi k (.Call fe t.2.1 [] t.2.2.2) ρ H Q) asAttr_b h3.2 fun u g=>?_)
    have g:=Bool.and_eq_true_iff.mp g
    have g1:=Bool.and_eq_true_iff.mp g.1
    have g2:=Bool.and_eq_true_iff.mp g1.1
    have hlt:t.2.1.length<20:=of_decide_eq_true h2.2
    refine eq_e (P:=fun n=>WE G fi k (.Call (.Attribute u.1 n u.2.2) t.2.1 [] t.2.2.2) ρ H Q) (beq_iff_eq.mp g2.1) fun A env s r o R F=>wpAny_Call_method_lateS (base_plain g2.2 _) ?_ g1.2 (PA.then (ha.e fi _ g.2 ρ H _ w A env s r o R F) fun xv H₁ v s₁ st1 R1 e1 q1=>boolT q1 (fun hk q1=>?_) fun uu q1=>q1.elim)
    · rw [line_ok (plainArgs h.2)]
      simp [backToKw,keywordEach]; omega
    · obtain ⟨T,id,k1,k2,k3,k4,k5,k6⟩:=kind_at R1 e1 hk
      refine ⟨T,id,k2,k3,k4,k5,k6,callWith_machine rfl (plainArgs h.2) (PA.then (hs.es fi _ h.2 ρ H₁ _ q1 A env s₁ _ r o R1 (F.step R st1)) fun vs H₂ ws s₂ st2 R2 e2 q2=>
        optP q2.2 fun pr hb q2=>PA.lift2 (meth_call gk.base r R2 (e1.step R1 st2) e2 k1 (r:=pr.1) (H':=pr.2) hb q2) (st1.trans st2))⟩) fun uu uu uu=>rfl
include gk in
theorem cAttr (n:String) (ha:SX C k G a):SX C k G (.attr a n):=no_T (fun fi e h ρ H Q w=>as_e (P:=fun e=>WE G fi k e ρ H Q) asAttr_b h fun t h=>by
    have h:=Bool.and_eq_true_iff.mp h
    have h1:=Bool.and_eq_true_iff.mp h.1
    have h2:=Bool.and_eq_true_iff.mp h1.1
    refine eq_e (P:=fun n'=>WE G fi k (.Attribute t.1 n' t.2.2) ρ H Q) (beq_iff_eq.mp h2.1) fun A env s r o R F=>?_
    rw [arm_eval_Attribute,base_plain h2.2]
    exact wpAny_bind (PA.then (ha.e fi _ h.2 ρ H _ w A env s r o R F) fun x H₁ v s₁ st1 R1 e1 q1=>wpAny_bind (wpAny_standAt (wpAny_bind (wpAny_holding (optV q1 fun rr hb q1=>
      wpAny_mono (attr_sound gk.base R1 (List.contains_iff_mem.mp h1.2) e1 hb q1) (fun uu uu z=>wpAny_bind (wpAny_letTemporaryGo (wpAny_pure (z.lift st1)))) fun uu uu z=>z)))))) fun uu uu uu=>rfl
theorem cSub (ha:SX C k G a) (hb:SX C k G b):SX C k G (.sub a b):=by
  have hE:SE C k G (.sub a b):=fun fi e h ρ H Q w=>as_e (P:=fun e=>WE G fi k e ρ H Q) asSub_b h fun t h=>by
    have h:=Bool.and_eq_true_iff.mp h
    have h1:=Bool.and_eq_true_iff.mp h.1
    exact fun A env s r o R F=>Subscript_ (PA.then (ha.e fi _ h1.2 ρ H _ w A env s r o R F) fun x H₁ v s₁ st1 R1 e1 q1=>PA.then (hb.e fi _ h.2 ρ H₁ _ q1 A env s₁ r o R1 (F.step R st1)) fun y H₂ u s₂ st2 R2 e2 q2=>
      optV q2 fun rr hb q2=>(sub_sound R2 (e1.step R1 st2) e2 hb q2).elim fun T z=>z.elim fun id g=>tail_any g.2.1 g.1 (PA.lift2 g.2.2 (st1.trans st2)) (sub_plain h1.1 _ _))
  exact ⟨hE,sT_of hE (fun uu uu uu w=>w) fun fi e env h=>as_e (P:=fun e=>isTrue e env (eval e env)=(do let v <- eval e env; standAt e.pos; holding [v] (truthy v))) asSub_b h fun uu uu=>rfl⟩
theorem cSlice (ha:SX C k G a) (hb:SX C k G b):SX C k G (.sliceTo a b):=no_T (fun fi e h ρ H Q w=>as_e (P:=fun e=>WE G fi k e ρ H Q) asSub_b h fun t h=>by
    have h:=Bool.and_eq_true_iff.mp h
    refine as_e (P:=fun i=>WE G fi k (.Subscript t.1 i t.2.2) ρ H Q) asSlice_b h.2 fun u g=>?_
    have g:=Bool.and_eq_true_iff.mp g
    have g1:=Bool.and_eq_true_iff.mp g.1
    obtain ⟨h',g2,g3⟩:=(Option.any_eq_true _ _).mp g.2
    rw [Option.isNone_iff_eq_none.mp g1.1,Option.isNone_iff_eq_none.mp g1.2,g2]
    exact fun A env s r o R F=>Subscript_ (PA.then (ha.e fi _ h.1 ρ H _ w A env s r o R F) fun x H₁ v s₁ st1 R1 e1 q1=>
      wpAny_Slice (wpAny_pure (PA.then (hb.e fi _ g3 ρ H₁ _ q1 A env s₁ r o R1 (F.step R st1)) fun y H₂ u s₂ st2 R2 e2 q2=>wpAny_pure (
        optR q2 fun rr hb q2=>(slice_sound R2 (e1.step R1 st2) e2 hb q2).elim fun T z=>z.elim fun id g=>tail_any (ops:=[.ref s₂.heap.objs.size,v]) g.2.1 g.1 (wpAny_mono g.2.2 (fun uu uu z=>z.lift (st1.trans st2)) fun uu uu z=>z) rfl)))) ) fun uu uu uu=>rfl
theorem len_ok {ws:List Value} {vs:List V} {X:Addr->Prop} {h:Heap} {es:List PE} {ms:List ME} {fi:FI} (e:RepVs X h vs ws) (h1:vs.length=ms.length) (h2:chkEs fi ms es=true) (h3:es.length<=1000):ws.length<=sizeLine:=by
  rw [e.length,h1,chkEs_len h2,sizeLine_eq]; exact Nat.le_trans h3 (by decide)
theorem cList (hs:SL C k G es):SX C k G (.list es):=no_T (fun fi e h ρ H Q w=>as_e (P:=fun e=>WE G fi k e ρ H Q) asList_b h fun t h=>by
    have h:=Bool.and_eq_true_iff.mp h
    exact fun A env s r o R F=>wpAny_List_spliced (PA.then (hs.es fi _ h.2 ρ H _ w A env s _ r o R F) fun vs H₁ ws s₁ st1 R1 e1 q1=>
      ⟨len_ok e1 q1.1 h.2 (of_decide_eq_true h.1),PA.lift st1 (PA.pushList R1 (by simpa using e1) q1.2)⟩)) fun uu uu uu=>rfl
theorem cTup (hs:SL C k G es):SX C k G (.tup es):=no_T (fun fi e h ρ H Q w=>as_e (P:=fun e=>WE G fi k e ρ H Q) asTup_b h fun t h=>by
    have h:=Bool.and_eq_true_iff.mp h
    refine fun A env s r o R F=>wpAny_Tuple_spliced (PA.then (hs.es fi _ h.2 ρ H _ w A env s _ r o R F) fun vs H₁ ws s₁ st1 R1 e1 q1=>⟨len_ok e1 q1.1 h.2 (of_decide_eq_true h.1),?_⟩)
    have kk:∀ b ob,s₁.heap.get? b=some ob->(s₁.heap.push { cls:=.type "tuple",data:=.seq ws.toArray }).get? b=some ob:=fun uu uu e=>Heap.get?_push_of_some _ e
    exact ⟨.tup vs,H₁,st1.trans (StepX.grow s₁.toks kk),R1.grow s₁.toks kk,⟨_,_,_,rfl,Heap.get?_push_size _ rfl,R1.notX (none_size _),e1.mono fun b ob e uu uu=>kk b ob e⟩,q1.2⟩) fun uu uu uu=>rfl
end
end
end Mine
end
section
open PySem PySem.W PyProof.Rows PySem.SeqAt PySem.Calls
set_option maxRecDepth 100000
set_option maxHeartbeats 8000000
namespace Mine
section
variable {C:Cl} {k:Nat} {G:GC} (hC:∀ f vs H Q,C f vs H Q->CallSem G k f vs H Q) (gk:GOK2 G)
variable {a b:ME} {es args:List ME} {fi:FI}
theorem new_ok {H₁:AH} {hh h':Heap} {g:Array GenState} {d:Drawn} {t:Nat} {os:OsState} {x dx:Addr} (R1:Rep G H₁ ⟨hh,g,d,t,os⟩) (kk:∀ b o,hh.get? b=some o->h'.get? b=some o)
    (nD:hh.get? dx=none) (nX:hh.get? x=none) (hd:h'.Ns1 dx (fun uu=>none)) (hi:InstO G.C h' x dx) :
    Rep G ((H₁.set dx (.ns [])).set x (.inst dx)) ⟨h',g,d,t,os⟩/\Step H₁ ⟨hh,g,d,t,os⟩ ((H₁.set dx (.ns [])).set x (.inst dx)) ⟨h',g,d,t,os⟩:=by
  have R2:Rep G (H₁.set dx (.ns [])) ⟨h',g,d,t,os⟩:=R1.new (s:=⟨hh,g,d,t,os⟩) t nD kk ⟨_,hd,fun y hy=>absurd rfl hy,fun y v e=>noS e⟩
  refine ⟨⟨fun b o eb=>?_,R2.ground,fun b o eb=>(AH.set_ne (ne_new nX (R1.ground b o eb))).trans (R2.gmut b o eb),fun b xb=>?_,R2.gens,R2.os,R2.drawn⟩,fun b o e uu uu=>kk b o e,fun b e=>al_of kk e,fun b m=>?_,fun b o e q=>?_,rfl,rfl,rfl⟩
  · by_cases hb:b=x
    · subst hb; rw [AH.set_self] at eb; obtain rfl:=Option.some.inj eb
      exact hi
    · rw [AH.set_ne hb] at eb; exact R2.own b o eb
  · have hb:b ≠ x:=(R1.xl b xb).2.elim fun uu e=>ne_new nX e
    exact (AH.set_ne hb) ▸ R2.xl b xb
  · exact (Mu_set m).elim (fun h=>.inr (h ▸ nX)) fun m=>(Mu_set m).elim (fun h=>.inr (h ▸ nD)) .inl
  · exact (AH.set_ne (ne_new nX e)).trans ((AH.set_ne (ne_new nD e)).trans q)
theorem inst_ne {C:Addr} {h:Heap} {x dx:Addr} (i:InstO C h x dx):x ≠ dx:=by obtain ⟨n,uu⟩:=i; exact n.symm
include hC in
theorem new_call {H:AH} {s:Shared} {A:Around} (r:Room k A) (R:Rep G H s) {vs:List V} {ws:List Value} (e:RepVs G.X s.heap vs ws) {Q:V->AH->Prop}
    (w:∀ dx a,H dx=none->H a=none->a ≠ dx->C "__init__" (.ref a::vs) ((H.set dx (.ns [])).set a (.inst dx)) fun v H₂=>match v with | .none=>Q (.ref a) H₂ | _=>False) {N fI:Addr} {mN:Str->Option Value} {oI:Obj}
    (c1:ClsAt G.g₀ G.C N mN) (c5:mN "__init__" = some (.ref fI)) (c6:G.g₀.get? fI=some oI) (c7:oI.cls = .type "function") :
    wpAny (model G.prog G.w) A (call (.ref G.C) ws) (PV G H s Q) F0 s:=by
  have c1':=c1.keeps R.ground
  obtain ⟨nm,q',bs,sn,sub,col,dd,k0,k1,k2,k3,k5,hCl⟩:=clsO c1'
  obtain ⟨hh,g,d,t,os⟩:=s
  refine wpAny_call_obj_init PySem.F.objNew hCl c1'.ns c5 (R.ground _ _ c6) c7 fun h' x dx Mk=>?_
  have hi:InstO G.C h' x dx/\h'.Ns1 dx (fun uu=>none):=by
    obtain ⟨ox,m1,m2,m3,m4⟩:=Mk.inst
    have m5:=Mk.dict ox m1
    rcases m4 with ⟨m6,uu⟩ | ⟨d',m6,m7,m8⟩
    · exact nomatch m5.symm.trans m6
    obtain rfl:=Option.some.inj (m5.symm.trans m6)
    exact ⟨⟨m7,ox,m1,m2,m5,m3⟩,m8⟩
  obtain ⟨R3,st2⟩:=new_ok R Mk.keeps Mk.newD Mk.newX hi.2 hi.1
  refine PA.then (hC "__init__" _ _ _ (w dx x (R.fresh Mk.newD) (R.fresh Mk.newX) (inst_ne hi.1)) fI _ ⟨h',g,d,t,os⟩ _ (.inr ⟨rfl,N,mN,c1,c5⟩) ?_ R3 (RepVs.cons' rRef (e.step R st2))) fun rv H₃ v s₃ st3 R4 e3 q3=>?_
  · have h1:=r.2.1; have h2:=r.2.2
    exact ⟨r.1,show A.depth+1+4*k<=900 by omega,show A.units+1+20*k<=9000 by omega⟩
  · rcases rv with uu | uu
    case none=>exact e3 ▸ ⟨rfl,.ref x,H₃,st2.trans st3,R4,rfl,q3⟩
    all_goals exact q3.elim
include hC gk in
theorem cNew (hs:SL C k G args):SX C k G (.new args):=no_T (fun fi e h ρ H Q w=>as_e (P:=fun e=>WE G fi k e ρ H Q) asCall_b h fun t h=>by
    have h:=Bool.and_eq_true_iff.mp h
    have h1:=Bool.and_eq_true_iff.mp h.1
    have h2:=Bool.and_eq_true_iff.mp h1.1
    refine nil_e (P:=fun kw=>WE G fi k (.Call t.1 t.2.1 kw t.2.2.2) ρ H Q) h2.1 (name_e (P:=fun fe=>WE G fi k (.Call fe t.2.1 [] t.2.2.2) ρ H Q) h2.2 fun p hg=>?_)
    obtain ⟨N,mN,fI,oI,c1,c2,c3,c4,c5,c6,c7⟩:=gk.base.cls
    obtain ⟨uu,as,kws,pos⟩:=t
    have h4:chkEs fi args as=true:=h.2
    have h5:(!as.isEmpty)=true:=h1.2
    rcases as with uu | ⟨e0,as⟩
    · exact absurd h5 Bool.false_ne_true
    rcases args with uu | ⟨m0,args⟩
    · exact absurd h4 Bool.false_ne_true
    have hstar:notStar e0=true:=(Bool.and_eq_true_iff.mp (Bool.and_eq_true_iff.mp h4).1).1
    refine fun A env s r o R F=>wpAny_Call_ofName (loadG gk o R hg gk.cl ?_)
    have hplain:=plainArgs (env:=env) (pos:=pos) h4
    rw [starEach_cons hstar] at hplain
    refine callWith_cls c1 (PA.then (hs.es fi _ h4 ρ H _ w A env s _ r o R F) fun vs H₁ ws s₁ st1 R1 e1 q1=>⟨R1.ground,?_⟩) (starEach_cons hstar) (Bool.or_eq_false_iff.mp (show (false || (backTo pos (starEach as env)).any (·.1))=false from hplain)).2
    exact PA.lift2 (new_call hC r R1 e1 q1.2 c1 c5 c6 c7) st1) fun uu uu uu=>rfl
theorem cDict (ks:List String) (hs:SL C k G es):SX C k G (.dict ks es):=no_T (fun fi e h ρ H Q w=>as_e (P:=fun e=>WE G fi k e ρ H Q) asDict_b h fun t h=>by
    have h:=Bool.and_eq_true_iff.mp h
    have h4:=Bool.and_eq_true_iff.mp h.1
    have h3:=Bool.and_eq_true_iff.mp h4.1
    have h2:=Bool.and_eq_true_iff.mp h3.1
    obtain ⟨keys,xs,pos⟩:=t
    have hk:keysOk ks keys=true:=h2.1
    have hx:chkEs fi es xs=true:=h.2
    have hl:keys.length=xs.length:=of_decide_eq_true h3.2
    have hn:ks.Nodup:=of_decide_eq_true h2.2
    refine fun A env s r o R F=>?_
    have hD:=none_size s.heap
    have kk:∀ b ob,s.heap.get? b=some ob->(s.heap.push { cls:=.type "dict",data:=.dict #[] }).get? b=some ob:=fun uu uu e=>Heap.get?_push_of_some _ e
    rcases ks with uu | ⟨k0,ks⟩
    · obtain rfl:keys=[]:=keysOk_n (P:=fun keys=>keys=[]) hk rfl
      obtain rfl:xs=[]:=List.length_eq_zero_iff.mp hl.symm
      rcases es with uu | ⟨m0,es⟩
      · refine wpAny_Dict_empty ?_
        exact ⟨.ref s.heap.objs.size,H.set s.heap.objs.size (.di false []),StepX.new s.toks hD kk,R.new s.toks hD kk ⟨[],Heap.DictOf.new s.heap,rfl,rfl⟩,rfl,w _ (R.fresh hD)⟩
      · exact absurd hx Bool.false_ne_true
    · have hne:keys ≠ []:=by rintro rfl; exact absurd hk Bool.false_ne_true
      refine wpAny_Dict_walk (knd:=PySem.strKind G.prog G.w) (keysOk_some hk) hl hne (of_decide_eq_true h4.2) ?_
      have R1:=R.grow s.toks kk
      have st1:Step H s H { s with heap:=s.heap.push { cls:=.type "dict",data:=.dict #[] } }:=StepX.grow s.toks kk
      have pD:Priv G H (s.heap.push { cls:=.type "dict",data:=.dict #[] }) s.heap.objs.size:=⟨R.fresh hD,R.freshG hD,_,Heap.get?_push_size _ rfl,notImm_dict rfl⟩
      refine wpAny_mono (hs.ps fi xs hx (k0::ks) keys hk hl ρ H _ w A env { s with heap:=s.heap.push { cls:=.type "dict",data:=.dict #[] } } pos r o R1 (F.step R st1)) (fun ps s₂ z=>?_) fun uu uu z=>z
      obtain ⟨vs,H₂,kvs,st2,R2,e2,e3,e4,e5,q⟩:=z
      have pD2:=pD.step st2 id
      refine ⟨kvs,e2,(Heap.DictOf.new s.heap).at fun o e=>st2.kp _ _ e (noMu pD.nH) id,fun h' hd hs=>?_⟩
      rw [merged_nil_of_nodup kvs (by rw [e3]; exact ofString_nodup hn)] at hd
      have k2:∀ b ob,b ≠ s.heap.objs.size->s₂.heap.get? b=some ob->h'.get? b=some ob:=fun b ob hb e=>hs.extBut b ob hb e
      have lu:RepO G h' s.heap.objs.size (.ds false ((k0::ks).zip vs)):=by
        have hl:(k0::ks).length=vs.length:=by
          have e6:=congrArg List.length e3
          rw [List.length_map,List.length_map] at e6
          exact e6.symm.trans (e4.length ▸ (List.length_map _).symm)
        refine ⟨kvs,hd,?_,?_⟩
        · rw [e3,<- List.map_fst_zip (l₁:=k0::ks) (l₂:=vs) (Nat.le_of_eq hl),List.map_map,List.map_fst_zip (Nat.le_of_eq hl)]; rfl
        · rw [List.map_snd_zip (Nat.le_of_eq hl.symm)]; exact e4.mono (imm_priv (X:=G.X) k2 pD2.ob)
      obtain ⟨o',e',n'⟩:=lu.alive
      have R3:=R2.priv pD2 (s₂.toks+ps.length) k2 ⟨o',e'⟩
      exact ⟨.ref s.heap.objs.size,H₂.set s.heap.objs.size (.ds false ((k0::ks).zip vs)),((st1.trans st2).snoc (StepX.priv (s₂.toks+ps.length) k2 ⟨o',e'⟩) fun a h=>.inr (h ▸ hD)).adopt hD,R3.adopt ⟨pD2.nH,pD2.ng,o',e',n'⟩ (R.freshX hD) lu,rfl,q _ pD2.nH⟩) fun uu uu uu=>rfl
theorem gen_e {f:PE->PE->List PE->Bool} {P:List Comprehension->Prop}:∀ {gs:List Comprehension},genOk f gs=true->(∀ t i c,f t i c=true->P [⟨t,i,c,0⟩])->P gs
  | [],h,_=>absurd h Bool.false_ne_true
  | ⟨t,i,c,n⟩::r,h,k=>by
    have h:=Bool.and_eq_true_iff.mp h
    have h1:=Bool.and_eq_true_iff.mp h.1
    exact nil_e (P:=fun r=>P (⟨t,i,c,n⟩::r)) h1.1 (eq_e (P:=fun n=>P [⟨t,i,c,n⟩]) (beq_iff_eq.mp h1.2) (k t i c h.2))
theorem cComp (fr:List (Option Nat)) (tg:Tgt) (ha:SX C k G a) (hs:SL C k G es) (hb:SX C k G b):SX C k G (.comp fr tg a es b):=no_T (fun fi e h ρ H Q w=>as_e (P:=fun e=>WE G fi k e ρ H Q) asLC_b h fun t h=>
    gen_e (P:=fun g=>WE G fi k (.ListComp t.1 g t.2.2.1 t.2.2.2) ρ H Q) h fun tt i c h=>by
    have h:=Bool.and_eq_true_iff.mp h
    have h1:=Bool.and_eq_true_iff.mp h.1
    have h2:=Bool.and_eq_true_iff.mp h1.1
    have h3:=Bool.and_eq_true_iff.mp h2.1
    rcases tg with n | n
    · exact comp_list h3.1 h3.2 (Tt:=fun ρ' H' K=>wpIfs C es ρ' H' K) (Te:=fun ρ' H' K=>wpE C b ρ' H' K) (hs.ifs _ c h1.2) (hb.e _ _ h.2) (ha.e fi i h2.2 ρ H _ w)
    · exact absurd h3.1 Bool.false_ne_true) fun uu uu uu=>rfl
theorem cDcomp {c:ME} (fr:List (Option Nat)) (tg:Tgt) (ha:SX C k G a) (hb:SX C k G b) (hc:SX C k G c):SX C k G (.dcomp fr tg a b c):=no_T (fun fi e h ρ H Q w=>as_e (P:=fun e=>WE G fi k e ρ H Q) asDC_b h fun t h=>
    gen_e (P:=fun g=>WE G fi k (.DictComp t.1 t.2.1 g t.2.2.2.1 t.2.2.2.2) ρ H Q) h fun tt i cs h=>by
    have h:=Bool.and_eq_true_iff.mp h
    have h1:=Bool.and_eq_true_iff.mp h.1
    have h2:=Bool.and_eq_true_iff.mp h1.1
    have h3:=Bool.and_eq_true_iff.mp h2.1
    have h4:=Bool.and_eq_true_iff.mp h3.1
    refine nil_e (P:=fun cs=>WE G fi k (.DictComp t.1 t.2.1 [⟨tt,i,cs,0⟩] t.2.2.2.1 t.2.2.2.2) ρ H Q) h4.1 ?_
    rcases tg with n | n
    · exact dcomp_dict h4.2 h3.2 (Tk:=fun ρ' H' K=>wpE C b ρ' H' K) (Te:=fun ρ' H' K=>wpE C c ρ' H' K) (hb.e _ _ h1.2) (hc.e _ _ h.2) (ha.e fi i h2.2 ρ H _ w)
    · exact absurd h4.2 Bool.false_ne_true) fun uu uu uu=>rfl
theorem cNil:SL C k G [] where
  es fi es h ρ H Q w:=chkEs_n (P:=fun es=>WEsP G fi k es ρ H _) h fun A env s pos r o R F=>wpAny_pure (PA.same R (show RepVs G.X s.heap [] [] from rfl) ⟨rfl,w⟩)
  and fi es h ρ H Q w:=w.elim
  or fi es h ρ H Q w:=w.elim
  andT fi es h ρ H Q w:=chkEs_n (P:=fun es=>WBT G fi k .And es ρ H Q) h fun A env s r o R F=>wpAny_allTrue_And_nil (PB.mk R w s.toks)
  orT fi es h ρ H Q w:=chkEs_n (P:=fun es=>WBT G fi k .Or es ρ H Q) h fun A env s r o R F=>wpAny_allTrue_Or_nil (PB.mk R w s.toks)
  ifs fi es h ρ H Q w:=chkEs_n (P:=fun es=>WI G fi k es ρ H Q) h fun A env s r o R F=>by
    simp only [List.forIn_nil]
    exact wpAny_pure (PB.mk R w s.toks)
  c fi es h x ops os ho ρ H Q w:=by rcases ops with uu | ⟨op,uu | ⟨op2,ops⟩⟩ <;> exact w.elim
  ps fi es h ks keys hk hl ρ H Q w:=by
    refine chkEs_n (P:=fun es=>keys.length=es.length->WP G fi k ([]:List ME).length ks keys es ρ H Q) h (fun hl=>?_) hl
    obtain rfl:keys=[]:=List.length_eq_zero_iff.mp hl
    rcases ks with uu | uu
    · exact fun A env s pos r o R F=>evalPairs_nil ⟨[],H,[],StepX.refl,R,trivial,rfl,rfl,rfl,w⟩
    · exact absurd hk Bool.false_ne_true
theorem bool_step {op:BoolOp} {m:ME} {e:PE} {es:List PE} {ρ:Env} {H:AH} {Q W:V->AH->Prop} (hd:Bool) (hop:(op = .And/\hd=true) \/ (op = .Or/\hd=false)) (ha:SE C k G m) (hc:chkE fi m e=true) (hn:es ≠ []) {K:AH->Prop}
    (hK:∀ H',K H'->WB G fi k op es ρ H' Q) (hW:∀ v H',W v H'->∃ b,truthF v H'=some b/\((b=hd->K H')/\(b=(!hd)->Q v H'))) (w:wpE C m ρ H W):WB G fi k op (e::es) ρ H Q:=by
  rcases es with uu | ⟨e',es⟩
  · exact absurd rfl hn
  refine fun A env s pos r o R F=>?_
  show wpAny _ _ (do
    let v <- eval e env
    standAt pos
    let t <- holding [v] (truthy v)
    match op,t with
    | .And,false | .Or,true=>pure v
    | _,_=>boolOp pos op (evalEach (e'::es) env)) _ _ _
  refine wpAny_bind (PA.then (ha fi e hc ρ H _ w A env s r o R F) fun x H₁ v s₁ st1 R1 e1 q1=>wpAny_bind (wpAny_standAt (wpAny_bind (wpAny_holding ?_))))
  obtain ⟨b,hb,q1⟩:=hW _ _ q1
  refine PA.then (truth_sound (Q:=fun c H'=>(c=hd->K H')/\(c=(!hd)->Q x H')) R1 e1 hb q1) fun b' H₂ c s₂ st2 R2 e2 q2=>?_
  obtain rfl:b'=c:=e2
  have st:=st1.trans st2
  have z1:=fun h=>PA.lift2 (hK H₂ (q2.1 h) A env s₂ pos r o R2 (F.step R st)) st
  have z2:b'=(!hd)->wpAny (model G.prog G.w) A (pure v) (PV G H s Q) F0 s₂:=fun h=>wpAny_pure ⟨x,H₂,st,R2,e1.step R1 st2,q2.2 h⟩
  rcases hop with ⟨rfl,rfl⟩ | ⟨rfl,rfl⟩ <;> rcases b' with uu | uu <;> first | exact z1 rfl | exact z2 rfl
theorem and_w {K:AH->Prop} {Q:V->AH->Prop} {v:V} {H':AH} (w:match truthF v H' with | some true=>K H' | some false=>Q v H' | none=>False):∃ b,truthF v H'=some b/\((b=true->K H')/\(b=(!true)->Q v H')):=by
  revert w
  rcases truthF v H' with uu | uu | uu <;> intro w
  · exact w.elim
  · exact ⟨_,rfl,nofun,fun uu=>w⟩
  · exact ⟨_,rfl,fun uu=>w,nofun⟩
theorem or_w {K:AH->Prop} {Q:V->AH->Prop} {v:V} {H':AH} (w:match truthF v H' with | some true=>Q v H' | some false=>K H' | none=>False):∃ b,truthF v H'=some b/\((b=false->K H')/\(b=(!false)->Q v H')):=by
  revert w
  rcases truthF v H' with uu | uu | uu <;> intro w
  · exact w.elim
  · exact ⟨_,rfl,fun uu=>w,nofun⟩
  · exact ⟨_,rfl,nofun,fun uu=>w⟩
theorem chk_ne {m:ME} {ms:List ME} {es:List PE} (h:chkEs fi (m::ms) es=true):es ≠ []:=by rintro rfl; exact absurd h Bool.false_ne_true
variable {m:ME} {ms:List ME}
theorem cAndL (ha:SX C k G m) (hs:SL C k G ms):∀ fi es,chkEs fi (m::ms) es=true->∀ ρ H Q,wpAnd C (m::ms) ρ H Q->WB G fi k .And es ρ H Q:=fun fi es h ρ H Q w=>
  chkEs_c (P:=fun es=>WB G fi k .And es ρ H Q) h fun e r h1 h2 h3=>by
    rcases ms with uu | ⟨m',ms⟩
    · exact chkEs_n (P:=fun r=>WB G fi k .And (e::r) ρ H Q) h3 fun A env s pos r o R F=>ha.e fi e h2 ρ H Q w A env s r o R F
    · exact bool_step (W:=fun v H₁=>match truthF v H₁ with | some true=>wpAnd C (m'::ms) ρ H₁ Q | some false=>Q v H₁ | none=>False) true (.inl ⟨rfl,rfl⟩) ha.e h2 (chk_ne h3) (fun H' w=>hs.and fi r h3 ρ H' Q w) (fun v H' w=>and_w (K:=fun H'=>wpAnd C (m'::ms) ρ H' Q) (Q:=Q) w) w
theorem cOrL (ha:SX C k G m) (hs:SL C k G ms):∀ fi es,chkEs fi (m::ms) es=true->∀ ρ H Q,wpOr C (m::ms) ρ H Q->WB G fi k .Or es ρ H Q:=fun fi es h ρ H Q w=>
  chkEs_c (P:=fun es=>WB G fi k .Or es ρ H Q) h fun e r h1 h2 h3=>by
    rcases ms with uu | ⟨m',ms⟩
    · exact chkEs_n (P:=fun r=>WB G fi k .Or (e::r) ρ H Q) h3 fun A env s pos r o R F=>ha.e fi e h2 ρ H Q w A env s r o R F
    · exact bool_step (W:=fun v H₁=>match truthF v H₁ with | some true=>Q v H₁ | some false=>wpOr C (m'::ms) ρ H₁ Q | none=>False) false (.inr ⟨rfl,rfl⟩) ha.e h2 (chk_ne h3) (fun H' w=>hs.or fi r h3 ρ H' Q w) (fun v H' w=>or_w (K:=fun H'=>wpOr C (m'::ms) ρ H' Q) (Q:=Q) w) w
theorem cAndTL (ha:SX C k G m) (hs:SL C k G ms):∀ fi es,chkEs fi (m::ms) es=true->∀ ρ H Q,wpAndT C (m::ms) ρ H Q->WBT G fi k .And es ρ H Q:=fun fi es h ρ H Q w=>
  chkEs_c (P:=fun es=>WBT G fi k .And es ρ H Q) h fun e r h1 h2 h3 A env s rm o R F=>wpAny_allTrue_And_cons (PA.then (ha.t fi e h2 ρ H _ w A env s rm o R F) fun b H₁ c s₁ st1 R1 e1 q1=>by
    subst e1
    rcases b with uu | uu
    · exact ⟨false,H₁,st1,R1,rfl,q1⟩
    · exact PA.lift2 (hs.andT fi r h3 ρ H₁ Q q1 A env s₁ rm o R1 (F.step R st1)) st1)
theorem cOrTL (ha:SX C k G m) (hs:SL C k G ms):∀ fi es,chkEs fi (m::ms) es=true->∀ ρ H Q,wpOrT C (m::ms) ρ H Q->WBT G fi k .Or es ρ H Q:=fun fi es h ρ H Q w=>
  chkEs_c (P:=fun es=>WBT G fi k .Or es ρ H Q) h fun e r h1 h2 h3 A env s rm o R F=>wpAny_allTrue_Or_cons (PA.then (ha.t fi e h2 ρ H _ w A env s rm o R F) fun b H₁ c s₁ st1 R1 e1 q1=>by
    subst e1
    rcases b with uu | uu
    · exact PA.lift2 (hs.orT fi r h3 ρ H₁ Q q1 A env s₁ rm o R1 (F.step R st1)) st1
    · exact ⟨true,H₁,st1,R1,rfl,q1⟩)
theorem cIfsL (ha:SX C k G m) (hs:SL C k G ms):∀ fi es,chkEs fi (m::ms) es=true->∀ ρ H Q,wpIfs C (m::ms) ρ H Q->WI G fi k es ρ H Q:=fun fi es h ρ H Q w=>
  chkEs_c (P:=fun es=>WI G fi k es ρ H Q) h fun e r h1 h2 h3 A env s rm o R F=>by
    rw [ifs_cons]
    refine wpAny_bind (PA.then (ha.t fi e h2 ρ H _ w A env s rm o R F) fun b H₁ c s₁ st1 R1 e1 q1=>?_)
    subst e1
    rcases b with uu | uu
    · rw [ifs_false]
      exact wpAny_pure ⟨false,H₁,st1,R1,rfl,q1⟩
    · exact PA.lift2 (hs.ifs fi r h3 ρ H₁ Q q1 A env s₁ rm o R1 (F.step R st1)) st1
theorem cEsL (ha:SX C k G m) (hs:SL C k G ms):∀ fi es,chkEs fi (m::ms) es=true->∀ ρ H Q,wpEs C (m::ms) ρ H Q->WEsP G fi k es ρ H fun vs H'=>vs.length=(m::ms).length/\Q vs H':=fun fi es h ρ H Q w=>
  chkEs_c (P:=fun es=>WEsP G fi k es ρ H fun vs H'=>vs.length=(m::ms).length/\Q vs H') h fun e r h1 h2 h3 A env s pos rm o R F=>by
    rw [starEach_cons h1]
    exact spliced_cons (PA.then (ha.e fi e h2 ρ H _ w A env s rm o R F) fun x H₁ v s₁ st1 R1 e1 q1=>PA.then (hs.es fi r h3 ρ H₁ _ q1 A env s₁ pos rm o R1 (F.step R st1)) fun xs H₂ vs s₂ st2 R2 e2 q2=>
      ⟨x::xs,H₂,st1.trans st2,R2,RepVs.cons' (e1.step R1 st2) e2,congrArg (· + 1) q2.1,q2.2⟩)
theorem cPsL (ha:SX C k G m) (hs:SL C k G ms):∀ fi es,chkEs fi (m::ms) es=true->∀ ks keys,keysOk ks keys=true->keys.length=es.length->∀ ρ H Q,wpEs C (m::ms) ρ H Q->WP G fi k (m::ms).length ks keys es ρ H Q:=fun fi es h ks keys hk hl ρ H Q w=>
  chkEs_c (P:=fun es=>keys.length=es.length->WP G fi k (m::ms).length ks keys es ρ H Q) h (fun e r h1 h2 h3 hl=>by
    rcases ks with uu | ⟨k0,ks⟩
    · obtain rfl:keys=[]:=keysOk_n (P:=fun keys=>keys=[]) hk rfl
      exact nomatch hl
    refine keysOk_c (P:=fun keys=>keys.length=(e::r).length->WP G fi k (m::ms).length (k0::ks) keys (e::r) ρ H Q) hk (fun n p keys hk hl=>fun A env s pos rm o R F=>pairTrees_cons_walk (wpAny_Constant_str ?_)) hl
    have R0:=R.tok (s.toks+1)
    have st0:Step H s H { s with toks:=s.toks+1 }:=StepX.tok (s.toks+1)
    refine PA.then (ha.e fi e h2 ρ H _ w A env _ rm o R0 (F.step R st0)) fun x H₁ v s₁ st1 R1 e1 q1=>?_
    refine wpAny_mono (hs.ps fi r h3 ks keys hk (Nat.succ.inj hl) ρ H₁ _ q1 A env s₁ pos rm o R1 ((F.step R st0).step R0 st1)) (fun ps s₂ z=>?_) fun uu uu z=>z
    obtain ⟨vs,H₂,kvs,st2,R2,e2,e3,e4,e5,q⟩:=z
    exact ⟨x::vs,H₂,(Str.ofString k0,v)::kvs,st0.trans (st1.trans st2),R2,⟨by simp [PySem.strKind,Value.isStrOf],rfl,e2⟩,congrArg (Str.ofString k0 :: ·) e3,RepVs.cons' (e1.step R1 st2) e4,congrArg (· + 1) e5,q⟩) hl
end
end Mine
end
section
open PySem PySem.W PyProof.Rows PySem.SeqAt PySem.Calls
set_option maxRecDepth 100000
set_option maxHeartbeats 8000000
namespace Mine
section
variable {C:Cl} {k:Nat} {G:GC} (hC:∀ f vs H Q,C f vs H Q->CallSem G k f vs H Q) (gk:GOK2 G)
variable {fi:FI} {m:ME} {ms:List ME}
theorem opsOk_c {op:COp} {ops:List COp} {P:List CmpOp->Prop}:∀ {os:List CmpOp},opsOk (op::ops) os=true->(∀ o r,cmpOk op o=true->opsOk ops r=true->P (o::r))->P os
  | [],h,_=>absurd h Bool.false_ne_true
  | o::r,h,k=>k o r (Bool.and_eq_true_iff.mp h).1 (Bool.and_eq_true_iff.mp h).2
theorem opsOk_n {P:List CmpOp->Prop}:∀ {os:List CmpOp},opsOk [] os=true->P []->P os
  | [],_,k=>k
  | _::_,h,_=>absurd h Bool.false_ne_true
theorem cmp_b {s:Shared} {A:Around} (Rm:Room k A) (gk:GOK2 G) {H:AH} (R:Rep G H s) {op:COp} {op':CmpOp} (ho:cmpOk op op'=true) {x y:V} {v w:Value} {b:Bool} (rx:RepV G.X s.heap x v) (ry:RepV G.X s.heap y w) (h:cmpF op x y H=some b) {K:Bool->AH->Prop} (q:K b H) :
    wpAny (model G.prog G.w) A (compareOp op' v w) (fun u s'=>∃ c H',u = .bool c/\Step H s H' s'/\Rep G H' s'/\K c H') F0 s:=by
  obtain ⟨oS,hs⟩:=gk.base.sysm
  refine wpAny_mono (cmp_sound (Q:=fun y H'=>∃ c,y = .bool c/\K c H') Rm R hs ho rx ry h ⟨b,rfl,q⟩) (fun c s₂ z=>?_) fun uu uu z=>z
  obtain ⟨uu,H₂,st2,R2,e2,c',rfl,q2⟩:=z
  exact ⟨c',H₂,e2,st2,R2,q2⟩
include gk in
theorem cC1 (ha:SX C k G m) {fi:FI} {e:PE} (hc:chkE fi m e=true) {x:V} {op:COp} {op':CmpOp} (ho:cmpOk op op'=true) {ρ:Env} {H:AH} {Q:Bool->AH->Prop} (w:wpC C x [op] [m] ρ H Q):WC G fi k [op'] [e] x ρ H Q:=by
  constructor
  · refine fun Q' hQ A env s v pos r o R F ex=>chain_last (PA.then (ha.e fi e hc ρ H _ w A env s r o R F) fun y H₁ u s₁ st1 R1 e1 q1=>optB q1 fun b hb q1=>?_)
    refine wpAny_mono (cmp_b r gk R1 ho (ex.step R st1) e1 hb q1) (fun c s₂ z=>?_) fun uu uu z=>z
    obtain ⟨c',H₂,rfl,st2,R2,q2⟩:=z
    exact ⟨.bool c',H₂,st1.trans st2,R2,rfl,hQ _ _ q2⟩
  · refine fun A env s v pos r o R F ex=>test_last (PA.then (ha.e fi e hc ρ H _ w A env s r o R F) fun y H₁ u s₁ st1 R1 e1 q1=>optB q1 fun b hb q1=>?_)
    refine wpAny_mono (cmp_b r gk R1 ho (ex.step R st1) e1 hb q1) (fun c s₂ z=>?_) fun uu uu z=>z
    obtain ⟨c',H₂,rfl,st2,R2,q2⟩:=z
    exact wpAny_truthy_bool ⟨c',H₂,st1.trans st2,R2,rfl,q2⟩
theorem cmp_w {v:Option Bool} {K:Prop} {Q:Prop} (w:match v with | some true=>K | some false=>Q | none=>False):∃ b,v=some b/\(b=true->K)/\(b=false->Q):=by
  rcases v with uu | uu | uu
  · exact w.elim
  · exact ⟨_,rfl,nofun,fun uu=>w⟩
  · exact ⟨_,rfl,fun uu=>w,nofun⟩
include gk in
theorem cC2 (ha:SX C k G m) {fi:FI} {e e':PE} {m':ME} {es:List PE} (hc:chkE fi m e=true) {x:V} {op op₂:COp} {ops:List COp} {op' op2:CmpOp} {os:List CmpOp} (ho:cmpOk op op'=true) {ρ:Env} {H:AH} {Q:Bool->AH->Prop}
    (hs:∀ y H',wpC C y (op₂ :: ops) (m'::ms) ρ H' Q->WC G fi k (op2::os) (e'::es) y ρ H' Q) (w:wpC C x (op::op₂ :: ops) (m::m'::ms) ρ H Q):WC G fi k (op'::op2::os) (e::e'::es) x ρ H Q:=by
  constructor
  · refine fun Q' hQ A env s v pos r o R F ex=>chain_link (PA.then (ha.e fi e hc ρ H _ w A env s r o R F) fun y H₁ u s₁ st1 R1 e1 q1=>?_)
    obtain ⟨b,hb,q1⟩:=cmp_w q1
    refine wpAny_mono (cmp_b (K:=fun b H₁=>(b=true->wpC C y (op₂ :: ops) (m'::ms) ρ H₁ Q)/\(b=false->Q false H₁)) r gk R1 ho (ex.step R st1) e1 hb q1) (fun c s₂ z=>?_) fun uu uu z=>z
    obtain ⟨c',H₂,rfl,st2,R2,q2⟩:=z
    have st:=st1.trans st2
    refine wpAny_truthy_bool ?_
    rcases c' with uu | uu
    · exact ⟨.bool false,H₂,st,R2,rfl,hQ _ _ (q2.2 rfl)⟩
    · exact PA.lift2 ((hs y H₂ (q2.1 rfl)).v Q' hQ A env s₂ u pos r o R2 (F.step R st) (e1.step R1 st2)) st
  · refine fun A env s v pos r o R F ex=>test_link (PA.then (ha.e fi e hc ρ H _ w A env s r o R F) fun y H₁ u s₁ st1 R1 e1 q1=>?_)
    obtain ⟨b,hb,q1⟩:=cmp_w q1
    refine wpAny_mono (cmp_b (K:=fun b H₁=>(b=true->wpC C y (op₂ :: ops) (m'::ms) ρ H₁ Q)/\(b=false->Q false H₁)) r gk R1 ho (ex.step R st1) e1 hb q1) (fun c s₂ z=>?_) fun uu uu z=>z
    obtain ⟨c',H₂,rfl,st2,R2,q2⟩:=z
    have st:=st1.trans st2
    refine wpAny_truthy_bool ?_
    rcases c' with uu | uu
    · exact ⟨false,H₂,st,R2,rfl,q2.2 rfl⟩
    · exact PA.lift2 ((hs y H₂ (q2.1 rfl)).t A env s₂ u pos r o R2 (F.step R st) (e1.step R1 st2)) st
include gk in
theorem cCL (ha:SX C k G m) (hs:SL C k G ms):∀ fi es,chkEs fi (m::ms) es=true->∀ x ops os,opsOk ops os=true->∀ ρ H Q,wpC C x ops (m::ms) ρ H Q->WC G fi k os es x ρ H Q:=fun fi es h x ops os ho ρ H Q w=>
  chkEs_c (P:=fun es=>WC G fi k os es x ρ H Q) h fun e r h1 h2 h3=>by
    rcases ops with uu | ⟨op,ops⟩
    · rcases ms with ⟨⟩ <;> exact w.elim
    refine opsOk_c (P:=fun os=>WC G fi k os (e::r) x ρ H Q) ho fun op' os ho1 ho2=>?_
    rcases ops with uu | ⟨op₂,ops⟩ <;> rcases ms with uu | ⟨m',ms⟩
    · exact opsOk_n (P:=fun os=>WC G fi k (op'::os) (e::r) x ρ H Q) ho2 (chkEs_n (P:=fun r=>WC G fi k [op'] (e::r) x ρ H Q) h3 (cC1 gk ha h2 ho1 w))
    · exact w.elim
    · exact w.elim
    · exact opsOk_c (P:=fun os=>WC G fi k (op'::os) (e::r) x ρ H Q) ho2 fun op2 os g1 g2=>chkEs_c (P:=fun r=>WC G fi k (op'::op2::os) (e::r) x ρ H Q) h3 fun e' r' g3 g4 g5=>
        cC2 gk ha h2 ho1 (fun y H' w=>hs.c fi (e'::r') (by show (notStar e' && chkE fi m' e' && chkEs fi ms r')=true; rw [g3,g4,g5]; rfl) y (op₂ :: ops) (op2::os) (by show (cmpOk op₂ op2 && opsOk ops os)=true; rw [g1,g2]; rfl) ρ H' Q w) w
include gk in
theorem cCons (ha:SX C k G m) (hs:SL C k G ms):SL C k G (m::ms):=⟨cEsL ha hs,cAndL ha hs,cOrL ha hs,cAndTL ha hs,cOrTL ha hs,cIfsL ha hs,cCL gk ha hs,cPsL ha hs⟩
include hC gk in
theorem sX (m:ME):SX C k G m :=
  ME.rec (motive_1:=SX C k G) (motive_2:=SL C k G) cVar cInt cStr cBool cNone (cGlob gk) (fun op a b=>cBin gk op) (fun a=>cNeg) (fun a=>cInv) (fun a=>cNot) (fun es=>cAnd) (fun es=>cOr) (fun a ops es=>cCmp ops) (fun t a b=>cIte)
    (fun f args=>cCall hC gk f) (fun args=>cNew hC gk) (fun f args=>cBi gk f) (fun o m args=>cMeth gk m) (fun o x=>cAttr gk x) (fun o i=>cSub) (fun o hi=>cSlice) (fun es=>cList) (fun es=>cTup) (fun ks es=>cDict ks)
    (fun fr tg it ifs elt=>cComp fr tg) (fun fr tg it k v=>cDcomp fr tg) cNil (fun m ms=>cCons gk) m
include hC gk in
theorem sL:∀ ms:List ME,SL C k G ms
  | []=>cNil
  | m::ms=>cCons gk (sX hC gk m) (sL ms)
end
end Mine
end
section
open PySem PySem.W PyProof.Rows PySem.SeqAt PySem.Calls
set_option maxRecDepth 100000
set_option maxHeartbeats 4000000
namespace Mine
variable {G:GC}
inductive RetR (X:Addr->Prop) (h:Heap) (v:V) (f:Flow):Prop
  | mk (w:Value) (e:f = .ret w) (r:RepV X h v w)
noncomputable def FlowR (X:Addr->Prop) (h:Heap):Out->Flow->Prop
  | .next,f=>f = .next
  | .ret v,f=>RetR X h v f
inductive PS (G:GC) (fi:FI) (env:PySem.Env) (H:AH) (s:Shared) (Q:PO) (f:Flow) (s':Shared):Prop
  | mk (o:Out) (ρ':Env) (H':AH) (st:StepX (ownX fi env) H s H' s') (R:Rep G H' s') (F:FrR G fi env H' ρ' s') (fl:FlowR G.X s'.heap o f) (q:Q o ρ' H')
inductive PT (G:GC) (fi:FI) (env:PySem.Env) (H:AH) (s:Shared) (Q:Env->AH->Prop) (u:Unit) (s':Shared):Prop
  | mk (ρ':Env) (H':AH) (st:StepX (ownX fi env) H s H' s') (R:Rep G H' s') (F:FrR G fi env H' ρ' s') (q:Q ρ' H')
noncomputable def WS (G:GC) (fi:FI) (k:Nat) (st:Stmt) (ρ:Env) (H:AH) (Q:PO):Prop :=
  ∀ A env s,Room k A->EnvOK fi env->Rep G H s->FrR G fi env H ρ s->wpAny (model G.prog G.w) A (exec st env) (PS G fi env H s Q) F0 s
noncomputable def WSs (G:GC) (fi:FI) (k:Nat) (ss:List Stmt) (ρ:Env) (H:AH) (Q:PO):Prop :=
  ∀ A env s,Room k A->EnvOK fi env->Rep G H s->FrR G fi env H ρ s->wpAny (model G.prog G.w) A (execs ss env) (PS G fi env H s Q) F0 s
variable {fi:FI} {env:PySem.Env} {H H₁:AH} {s s₁:Shared} {ρ:Env}
theorem PS.lift {Q:PO} {f:Flow} {s':Shared} (x:StepX (ownX fi env) H s H₁ s₁) (h:PS G fi env H₁ s₁ Q f s'):PS G fi env H s Q f s':=by
  obtain ⟨o,ρ',H',st,R,F,fl,q⟩:=h; exact ⟨o,ρ',H',x.trans st,R,F,fl,q⟩
theorem PT.lift {Q:Env->AH->Prop} {u:Unit} {s':Shared} (x:StepX (ownX fi env) H s H₁ s₁) (h:PT G fi env H₁ s₁ Q u s'):PT G fi env H s Q u s':=by
  obtain ⟨ρ',H',st,R,F,q⟩:=h; exact ⟨ρ',H',x.trans st,R,F,q⟩
theorem PS.go {A:Around} {t:Sem Flow} {Q:PO} (x:StepX (ownX fi env) H s H₁ s₁) (h:wpAny (model G.prog G.w) A t (PS G fi env H₁ s₁ Q) F0 s₁):wpAny (model G.prog G.w) A t (PS G fi env H s Q) F0 s₁ :=
  wpAny_mono h (fun uu uu z=>z.lift x) fun uu uu z=>z
theorem PT.go {A:Around} {t:Sem Unit} {Q:Env->AH->Prop} (x:StepX (ownX fi env) H s H₁ s₁) (h:wpAny (model G.prog G.w) A t (PT G fi env H₁ s₁ Q) F0 s₁):wpAny (model G.prog G.w) A t (PT G fi env H s Q) F0 s₁ :=
  wpAny_mono h (fun uu uu z=>z.lift x) fun uu uu z=>z
theorem store_stmt {A:Around} {i:Nat} {x:Str} {v:V} {val:Value} {Q:Env->AH->Prop} (o:EnvOK fi env) (R:Rep G H s) (F:FrR G fi env H ρ s) (h:nmOk fi i x=true) (e:RepV G.X s.heap v val) (q:Q (setV ρ i v) H) :
    wpAny (model G.prog G.w) A (storeName env x val) (PT G fi env H s Q) F0 s:=by
  obtain ⟨kd,e1,e2,uu⟩:=nmGet h
  exact storeVar o R F e1 e2 e fun s' st R' F' e'=>⟨_,H,st.weaken (ownK_own o.nodup e1),R',F',q⟩
theorem draw_sound {A:Around} {L I:Addr} {it:V} {all:List V} {E:Value->Shared->Prop}:∀ (n j:Nat) (s:Shared),Rep G H s->ItOK G H s L I it all j->still it all H->j+n<=all.length->∀ (Q:List Value->Shared->Prop),
    (∀ ws s',StepX (· = I) H s H s'->Rep G H s'->ItOK G H s' L I it all (j+n)->RepVs G.X s'.heap ((all.drop j).take n) ws->Imm G.X s.heap s'.heap->ws.length=n->Q ws s')->wpAny (model G.prog G.w) A (draw (.ref I) n) Q E s
  | 0,j,s,R,K,st,hl,Q,q=>wpAny_pure (q [] s StepX.refl R K (by simp; rfl) (Imm.refl _) rfl)
  | n+1,j,s,R,K,st,hl,Q,q=>by
    have hlt:j<all.length:=by omega
    show wpAny _ _ (pyNext (.ref I) >>= _) Q E s
    refine wpAny_bind (next_item R K st (x:=all[j]) (List.getElem?_eq_getElem hlt) fun xv s₁ e1 st1 R1 K1 im1=>?_)
    refine wpAny_bind (wpAny_holding (draw_sound n (j+1) s₁ R1 K1 st (by omega) _ fun ws s₂ st2 R2 K2 e2 im2 hw=>wpAny_pure ?_))
    refine q (xv::ws) s₂ (st1.trans st2) R2 (by rw [show j+(n+1)=j+1+n by omega]; exact K2) ?_ (im1.trans im2) (by simp [hw])
    rw [List.drop_eq_getElem_cons hlt,List.take_succ_cons]
    exact RepVs.cons' (e1.mono im2) e2
theorem unpack_list {A:Around} (hh:A.handled=none) {a:Nat} {n:Nat} {vs:List V} (R:Rep G H s) (hl:H a=some (.list vs)) (hn:vs.length=n) {Q:List Value->Shared->Prop} {E:Value->Shared->Prop}
    (q:∀ ws s',Step H s H s'->Rep G H s'->RepVs G.X s'.heap vs ws->ws.length=n->Q ws s'):wpAny (model G.prog G.w) A (unpackItems (.ref a) n none) Q E s:=by
  obtain ⟨items,m,l1,l2⟩:=R.list hl
  have hi:iterF (.ref a) H=some vs:=by show listAt H a=some vs; unfold listAt; rw [hl]
  unfold unpackItems
  refine wpAny_bind ?_
  unfold notIterableAtAll
  refine wpAny_bind (wpAny_specialOf (T := "list") ⟨_,l1,rfl⟩ slot_list_iter.lookup ?_)
  refine wpAny_pure ?_
  simp only [Bool.false_eq_true,if_false]
  refine wpAny_bind (wpAny_holding (iter_start (L:=a) R (x:=.ref a) rfl hi ⟨_,l1⟩ fun I s₁ fI st1 R1 K1=>?_))
  refine wpAny_bind (wpAny_holding (draw_sound n 0 s₁ R1 K1 hi (by rw [hn,Nat.zero_add]; exact Nat.le_refl _) _ fun ws s₂ st2 R2 K2 e2 im2 hw=>?_))
  rw [if_neg (by omega)]
  refine wpAny_bind (wpAny_holding (next_end hh R2 K2 hi (List.getElem?_eq_none_iff.mpr (by rw [hn,Nat.zero_add]; exact Nat.le_refl _)) fun h' kk=>?_))
  simp only [Option.isSome_none,Bool.false_eq_true,if_false]
  have st:Step H s H s₂:=st1.snoc st2 fun b hb=>.inr (hb ▸ fI)
  rw [List.drop_zero,<- hn,List.take_length] at e2
  exact wpAny_pure (q ws _ (st.last s₂.toks fI kk) (R2.last K2.priv K2.nX s₂.toks kk) (e2.mono (imm_priv kk K2.priv.ob)) hw)
theorem unpack_tup {A:Around} (hh:A.handled=none) {val:Value} {n:Nat} {vs:List V} (R:Rep G H s) (e:RepV G.X s.heap (.tup vs) val) (hn:vs.length=n) {Q:List Value->Shared->Prop} {E:Value->Shared->Prop}
    (q:∀ ws s',Step H s H s'->Rep G H s'->RepVs G.X s'.heap vs ws->ws.length=n->Q ws s'):wpAny (model G.prog G.w) A (unpackItems val n none) Q E s:=by
  obtain ⟨a,items,m,rfl,ha,uu,r⟩:=e
  obtain rfl:items.size=n:=r.length.trans hn
  refine wpAny_unpackItems_tuple hh ⟨_,ha,rfl,m,rfl⟩ fun h' hx=>?_
  have k:∀ b o,s.heap.get? b=some o->h'.get? b=some o:=fun b o e=>hx b o (ne_new (none_size _) e) e
  exact q _ _ (StepX.grow s.toks k) (R.grow s.toks k) (r.mono fun b o e uu uu=>k b o e) (Array.length_toList ..)
theorem unpack_items {A:Around} (hh:A.handled=none) {v:V} {val:Value} {n:Nat} {vs:List V} (R:Rep G H s) (e:RepV G.X s.heap v val) (h:unpackF v n H=some vs) {Q:List Value->Shared->Prop} {E:Value->Shared->Prop}
    (q:∀ ws s',Step H s H s'->Rep G H s'->RepVs G.X s'.heap vs ws->ws.length=n->Q ws s'):wpAny (model G.prog G.w) A (unpackItems val n none) Q E s:=by
  rcases v with ⟨⟩ <;> try exact noS h
  · obtain ⟨hn,rfl⟩:=ite_e h
    exact unpack_tup hh R e hn q
  · obtain ⟨us,hl,h⟩:=bind_e h
    obtain ⟨hn,rfl⟩:=ite_e h
    obtain rfl:=e
    exact unpack_list hh R (listAt_e hl) hn q
noncomputable def setVs:Env->List Nat->List V->Env
  | ρ,[],_=>ρ
  | ρ,i::is,vs=>match vs with
    | []=>ρ
    | v::vs=>setVs (setV ρ i v) is vs
theorem setV_comm:∀ {ρ:Env} {i j:Nat} {v w:V},i ≠ j->setV (setV ρ i v) j w=setV (setV ρ j w) i v
  | [],_,_,_,_,_=>rfl
  | x::r,0,0,v,w,h=>absurd rfl h
  | x::r,0,j+1,v,w,h=>rfl
  | x::r,i+1,0,v,w,h=>rfl
  | x::r,i+1,j+1,v,w,h=>congrArg (x :: ·) (setV_comm (ρ:=r) fun e=>h (congrArg (· + 1) e))
theorem setVs_comm:∀ {is:List Nat} {vs:List V} {ρ:Env} {i:Nat} {v:V},i ∉ is->setVs (setV ρ i v) is vs=setV (setVs ρ is vs) i v
  | [],_,_,_,_,_=>rfl
  | j::is,[],_,_,_,_=>rfl
  | j::is,w::vs,ρ,i,v,h=>by
    show setVs (setV (setV ρ i v) j w) is vs=setV (setVs (setV ρ j w) is vs) i v
    rw [setV_comm fun e:i=j=>h (e ▸ .head _),setVs_comm fun e=>h (.tail _ e)]
theorem setVs_snoc:∀ {is:List Nat} {vs:List V} {ρ:Env} {i:Nat} {v:V},is.length=vs.length->setVs ρ (is ++ [i]) (vs ++ [v])=setV (setVs ρ is vs) i v
  | [],[],_,_,_,_=>rfl
  | [],_::_,_,_,_,h=>nomatch h
  | _::_,[],_,_,_,h=>nomatch h
  | j::is,w::vs,ρ,i,v,h=>setVs_snoc (is:=is) (vs:=vs) (ρ:=setV ρ j w) (Nat.succ.inj h)
theorem setVs_reverse:∀ {is:List Nat} {vs:List V} {ρ:Env},is.Nodup->is.length=vs.length->setVs ρ is.reverse vs.reverse=setVs ρ is vs
  | [],[],_,_,_=>rfl
  | [],_::_,_,_,h=>nomatch h
  | _::_,[],_,_,h=>nomatch h
  | i::is,v::vs,ρ,hn,hl=>by
    have hn:=List.nodup_cons.mp hn
    have hl:=Nat.succ.inj hl
    rw [List.reverse_cons,List.reverse_cons,setVs_snoc (by rw [List.length_reverse,List.length_reverse]; exact hl),setVs_reverse hn.2 hl]
    exact (setVs_comm hn.1).symm
inductive StoresOf (M:Model) (A:Around) (env:PySem.Env):List (Nat × Str)->List (Value->Sem Unit)->Prop
  | nil:StoresOf M A env [] []
  | cons {i x xs t ts}:(∀ w Q E s,wpAny M A (storeName env x w) Q E s->wpAny M A (t w) Q E s)->StoresOf M A env xs ts->StoresOf M A env ((i,x)::xs) (t::ts)
theorem own_imm {H':AH} {s':Shared} (o:EnvOK fi env) (R:Rep G H s) (F:FrR G fi env H ρ s) (st:StepX (ownX fi env) H s H' s'):Imm G.X s.heap s'.heap:=StepX.imm R st fun a o' h e=>F.notImm o.nodup a o' h e
theorem names_store {A:Around} (o:EnvOK fi env) {xs:List (Nat × Str)} {ts:List (Value->Sem Unit)} (so:StoresOf (model G.prog G.w) A env xs ts) {vs:List V} {ws:List Value} {ρ:Env} {s:Shared} (h:∀ p ∈ xs,nmOk fi p.1 p.2=true) (hl:xs.length=vs.length) (R:Rep G H s) (F:FrR G fi env H ρ s) (e:RepVs G.X s.heap vs ws)
    {Q:Env->AH->Prop} (q:Q (setVs ρ (xs.map (·.1)) vs) H):wpAny (model G.prog G.w) A (assignInOrder ts ws) (PT G fi env H s Q) F0 s:=by
  induction so generalizing vs ws ρ s with
  | nil=>
    obtain rfl:vs=[]:=List.length_eq_zero_iff.mp hl.symm
    obtain rfl:ws=[]:=e
    exact wpAny_pure ⟨ρ,H,StepX.refl,R,F,q⟩
  | @cons i x xs t ts h1 h2 ih=>
    rcases vs with uu | ⟨v,vs⟩
    · exact nomatch hl
    obtain ⟨w,ws,rfl,e1,e2⟩:=e
    obtain ⟨kd,k1,k2,uu⟩:=nmGet (h (i,x) (.head _))
    show wpAny _ _ (do holding ws (t w); assignInOrder ts ws) _ _ _
    refine wpAny_bind (wpAny_holding (h1 _ _ _ _ (storeVar o R F k1 k2 e1 fun s' st R' F' e'=>?_)))
    have st':StepX (ownX fi env) H s H s':=st.weaken (ownK_own o.nodup k1)
    exact PT.go st' (ih (fun p hp=>h p (.tail _ hp)) (Nat.succ.inj hl) R' F' (e2.mono (own_imm o R F st')) q)
theorem bindMany_set:∀ {is:List Nat} {vs:List V} {ρ ρ':Env},bindMany is vs ρ = some ρ'->is.length=vs.length /\ ρ'=setVs ρ is vs
  | [],vs,ρ,ρ',h=>by
    obtain ⟨h1,h2⟩:=ite_e h
    exact ⟨by rw [List.isEmpty_iff.mp h1]; rfl,h2.symm⟩
  | i::is,[],_,_,h=>noS h
  | i::is,v::vs,ρ,ρ',h=>by
    obtain ⟨h1,h2⟩:=bindMany_set (is:=is) (vs:=vs) (ρ:=setV ρ i v) h
    exact ⟨congrArg (· + 1) h1,h2⟩
inductive TgtsR (fi:FI) (env:PySem.Env) (M:Model) (A:Around) (is:List Nat) (es:List PE):Prop
  | mk (xs:List (Nat × Str)) (e:xs.map (·.1)=is) (n:∀ p ∈ xs,nmOk fi p.1 p.2=true) (f:(assignEach es env).findIdx? (·.1)=none) (l:(assignEach es env).length=is.length) (s:StoresOf M A env xs ((assignEach es env).map (·.2)))
theorem findIdx_cons {α:Type} {p:α->Bool} {x:α} {xs:List α} (h:p x=false) (h2:xs.findIdx? p=none):(x::xs).findIdx? p=none:=by rw [List.findIdx?_cons,h,h2]; rfl
theorem tgtsOk_each {M:Model} {A:Around}:∀ {is:List Nat} {es:List PE},tgtsOk fi is es=true->TgtsR fi env M A is es
  | [],es,h=>nil_e (P:=fun es=>TgtsR fi env M A [] es) h ⟨[],rfl,List.forall_mem_nil _,rfl,rfl,.nil⟩
  | _::_,[],h=>absurd h Bool.false_ne_true
  | i::is,e::es,h=>by
    have h:=Bool.and_eq_true_iff.mp h
    refine as_e (P:=fun e=>TgtsR fi env M A (i::is) (e::es)) asName_b h.1 fun t ht=>?_
    obtain ⟨xs,h1,h2,h3,h4,h5⟩:=tgtsOk_each (M:=M) (A:=A) h.2
    exact ⟨(i,t.1)::xs,congrArg (i :: ·) h1,List.forall_mem_cons.mpr ⟨ht,h2⟩,findIdx_cons (x:=(false,assign (.Name t.1 t.2) env)) rfl h3,congrArg (· + 1) h4,.cons (fun w Q E s hw=>wpAny_assign_Name hw) h5⟩
theorem bind_sound {A:Around} (r:A.handled=none) (o:EnvOK fi env) {tg:Tgt} {target:PE} (h:tgtOk fi tg target=true) {x:V} {v:Value} {ρ':Env} (hb:bindT tg x ρ = some ρ') (R:Rep G H s) (F:FrR G fi env H ρ s) (e:RepV G.X s.heap x v) {Q:Env->AH->Prop} (q:Q ρ' H) :
    wpAny (model G.prog G.w) A (assign target env v) (PT G fi env H s Q) F0 s:=by
  rcases tg with i | is
  · refine as_e (P:=fun target=>wpAny (model G.prog G.w) A (assign target env v) (PT G fi env H s Q) F0 s) asName_b h fun t h=>?_
    obtain rfl:=Option.some.inj hb
    exact wpAny_assign_Name (store_stmt o R F h e q)
  · refine as_e (P:=fun target=>wpAny (model G.prog G.w) A (assign target env v) (PT G fi env H s Q) F0 s) asTup_b h fun t h=>?_
    rcases x with ⟨⟩ <;> try exact noS hb
    obtain ⟨hl,rfl⟩:=bindMany_set hb
    obtain ⟨a,items,m,rfl,ha,uu,rr⟩:=e
    obtain ⟨xs,rfl,h2,h3,h4,h5⟩:=tgtsOk_each (env:=env) (M:=model G.prog G.w) (A:=A) h
    refine wpAny_assign_Tuple r ⟨_,ha,rfl,m,rfl⟩ (h4.trans (hl.trans rr.length.symm)) h3 fun h' hx=>?_
    have k:∀ b o,s.heap.get? b=some o->h'.get? b=some o:=fun b o e=>hx b o (ne_new (none_size _) e) e
    have st:Step H s H { s with heap:=h' }:=StepX.grow s.toks k
    exact PT.go (Step.to st) (names_store o h5 h2 ((List.length_map _).symm.trans hl) (R.grow s.toks k) (F.step R st) (rr.step R st) q)
end Mine
end
section
open PySem PySem.W PyProof.Rows PySem.SeqAt PySem.Calls
set_option maxRecDepth 100000
set_option maxHeartbeats 4000000
namespace Mine
variable {G:GC}
variable {fi:FI} {env:PySem.Env} {H:AH} {s:Shared} {ρ:Env}
theorem iter_tup {h:Heap} {H:AH} {L I:Addr} {it:V} {all:List V} {j:Nat} {us:List V} (hx:all[j]? = some (.tup us)) (z:ItAt G H h L I it all (j+1)):∃ a,it = .ref a/\h.IsListIter I a (j+1):=by
  rcases it with ⟨⟩ <;> try exact z.elim
  · rcases z with ⟨d,uu,uu,uu,cvs,ep,uu,uu,rfl⟩ | ⟨d,uu,uu,uu,cvs,ks,ep,uu,uu,uu,rfl⟩
    · rw [List.getElem?_map,Option.map_eq_some_iff] at hx
      exact hx.elim fun p hp=>nomatch hp.2
    · rw [List.getElem?_map,Option.map_eq_some_iff] at hx
      exact hx.elim fun p hp=>nomatch hp.2
  · exact ⟨_,rfl,z⟩
  · obtain ⟨uu,rfl⟩:=z
    exact nomatch (rngL_get hx).1
theorem letGo_ok {A:Around} {L I:Addr} {it x:V} {all:List V} {j:Nat} {tg:Tgt} {target:PE} {v:Value} {ρ':Env} (h:tgtOk fi tg target=true) (hb:bindT tg x ρ = some ρ') (hx:all[j]? = some x) {H':AH} {s':Shared} (K:ItOK G H s' L I it all (j+1))
    {Q:Unit->Shared->Prop} {E:Value->Shared->Prop} (q:Q () s'):wpAny (model G.prog G.w) A (letOwnedTupleGo target (.ref I) v) Q E s':=by
  rcases tg with i | is
  · exact as_e (P:=fun target=>wpAny (model G.prog G.w) A (letOwnedTupleGo target (.ref I) v) Q E s') asName_b h fun t h=>wpAny_pure q
  · refine as_e (P:=fun target=>wpAny (model G.prog G.w) A (letOwnedTupleGo target (.ref I) v) Q E s') asTup_b h fun t h=>?_
    rcases x with ⟨⟩ <;> try exact noS hb
    obtain ⟨a,uu,z⟩:=iter_tup hx K.at_
    rcases v with ⟨⟩
    case ref T=>exact wpAny_letOwnedTupleGo_listiter z q
    all_goals exact wpAny_pure q
theorem fld_dict {h:Heap} {a:Addr} (n:FldO h a) (d:DictO h a):False:=by
  obtain ⟨o,e,fs,r⟩:=n
  obtain ⟨o',e',es,ep,r'⟩:=d
  obtain rfl:=Option.some.inj (e.symm.trans e')
  exact nomatch r.symm.trans r'
theorem ItOK.own {I:Addr} {it:V} {all:List V} {j:Nat} {H':AH} {s':Shared} (o:EnvOK fi env) (F:FrR G fi env H ρ s) (K:ItOK G H s env.locals I it all j) (x:StepX (ownX fi env) H s H' s'):ItOK G H' s' env.locals I it all j:=by
  refine K.step x fun a ha=>?_
  rcases ha with rfl | ⟨y,h1,h2⟩
  · exact ⟨fun h=>fld_dict K.fld (h ▸ F.dictL),.inl rfl⟩
  · obtain ⟨i,hi,hx⟩:=List.mem_iff_getElem.mp (mem_of_lookup h1)
    obtain ⟨c,ov,e1,uu,e3,uu⟩:=F.cells i y _ (by rw [List.getElem?_eq_getElem hi,hx]) (.inl rfl)
    obtain rfl:=Option.some.inj (h2.symm.trans e1)
    exact ⟨fun h=>cell_fld e3 (h ▸ K.fld),.inr fun o e es ep d=>cell_dict e3 ⟨o,e,es,ep,d⟩⟩
inductive ForI (G:GC) (fi:FI) (env:PySem.Env) (H₀:AH) (s₀:Shared) (I:Addr) (it:V) (all:List V) (W:Nat->Env->AH->Prop) (m:Nat) (s:Shared):Prop
  | mk (j:Nat) (H:AH) (ρ:Env) (e:m=all.length - j) (st:StepX (ownX fi env) H₀ s₀ H s) (R:Rep G H s) (F:FrR G fi env H ρ s) (K:ItOK G H s env.locals I it all j) (w:W j ρ H)
theorem forT_n {tg:Tgt} {Tb:Tr} {it:V} {all:List V} {Q:PO} {j:Nat} (hx:all[j]? = none) (w:forT tg Tb it all (all.drop j) ρ H Q):still it all H/\Q .next ρ H:=by rw [drop_nil hx] at w; exact w
inductive TurnR (tg:Tgt) (Tb:Tr) (it:V) (all:List V) (Q:PO) (j:Nat) (x:V) (ρ:Env) (H:AH):Prop
  | mk (ρ':Env) (st:still it all H) (e:bindT tg x ρ = some ρ') (w:Tb ρ' H fun oo ρ₁ H₁=>match oo with | .next=>forT tg Tb it all (all.drop (j+1)) ρ₁ H₁ Q | .ret v=>Q (.ret v) ρ₁ H₁)
theorem optEn {K:Env->Prop} {P:Prop}:∀ {o:Option Env},(match o with | none=>False | some r=>K r)->(∀ r,o=some r->K r->P)->P
  | some r,q,h=>h r rfl q
  | none,q,_=>q.elim
theorem forT_c {tg:Tgt} {Tb:Tr} {it:V} {all:List V} {Q:PO} {j:Nat} {x:V} (hx:all[j]? = some x) (w:forT tg Tb it all (all.drop j) ρ H Q):TurnR tg Tb it all Q j x ρ H:=by
  rw [drop_cons hx] at w
  exact optEn w.2 fun ρ' e w2=>⟨ρ',w.1,e,w2⟩
theorem FrR.iterE {I:Addr} {h':Heap} (F:FrR G fi env H ρ s) (K:FldO s.heap I) (hL:I ≠ env.locals) (kk:∀ b o,b ≠ I->s.heap.get? b=some o->h'.get? b=some o) (im:Imm G.X s.heap h'):FrR G fi env H ρ { s with heap:=h' } :=
  F.move (fun uu uu uu h=>h) im (fun o e=>kk _ o hL.symm e) fun i n k c h1 h2 h3 uu o e=>kk _ o (fun hc=>by
    obtain ⟨c',ov,e1,uu,e3,uu⟩:=F.cells i n k h1 h2
    obtain rfl:=Option.some.inj (h3.symm.trans e1)
    exact cell_fld e3 (hc ▸ K)) e
theorem FrR.iter {I:Addr} {s':Shared} (F:FrR G fi env H ρ s) (x:StepX (· = I) H s H s') (im:Imm G.X s.heap s'.heap) (K:FldO s.heap I) (hL:I ≠ env.locals):FrR G fi env H ρ s' :=
  F.move x.dm im (fun o e=>x.kp _ o e (noMu F.nL) fun h=>hL h.symm) fun i n k c h1 h2 h3 hc o e=>x.kp _ o e (noMu hc) fun h=>by
    obtain ⟨c',ov,e1,uu,e3,uu⟩:=F.cells i n k h1 h2
    obtain rfl:=Option.some.inj (h3.symm.trans e1)
    exact cell_fld e3 (h ▸ K)
theorem for_loop {k:Nat} {A:Around} (r:Room k A) (o:EnvOK fi env) {tg:Tgt} {target:PE} (htg:tgtOk fi tg target=true) {body:List Stmt} {Tb:Tr} (hb:∀ ρ H Q,Tb ρ H Q->WSs G fi k body ρ H Q)
    {it:V} {all:List V} {I:Addr} {H₀:AH} {s₀:Shared} {Q:PO} {E:Value->Shared->Prop} (fI:s₀.heap.get? I=none) (st:StepX (ownX fi env) H₀ s₀ H s) (R:Rep G H s) (F:FrR G fi env H ρ s) (K:ItOK G H s env.locals I it all 0) (w:forT tg Tb it all all ρ H Q) :
    codeAny (model G.prog G.w) A (.forLoop target (.ref I) body [] env) (fun r s'=>match r with | .ok f=>PS G fi env H₀ s₀ Q f s' | .error e=>cameBackBy (model G.prog G.w) A env E e s') s:=by
  refine codeAny_forLoop_any (ForI G fi env H₀ s₀ I it all fun j ρ H=>forT tg Tb it all (all.drop j) ρ H Q) ?_ all.length ⟨0,H,ρ,rfl,st,R,F,K,w⟩
  rintro m s ⟨j,H,ρ,rfl,st,R,F,K,w⟩
  rcases hx:all[j]? with uu | x
  · obtain ⟨w1,w2⟩:=forT_n hx w
    exact next_end r.1 R K w1 hx fun h' kk=>wpAny_execs_nil ⟨.next,ρ,H,st.last s.toks fI kk,R.last K.priv K.nX s.toks kk,F.iterE K.fld K.nL kk (imm_priv kk K.priv.ob),rfl,w2⟩
  · obtain ⟨ρ',w1,hbt,w2⟩:=forT_c hx w
    refine next_item R K w1 hx fun v s₂ ev st2 R2 K2 im2=>?_
    have F2:=F.iter st2 im2 K.fld K.nL
    have st02:StepX (ownX fi env) H₀ s₀ H s₂:=st.snoc st2 fun a h=>.inr (h ▸ fI)
    refine letGo_ok (H':=H) (s':=s₂) htg hbt hx K2 (wpAny_mono (bind_sound r.1 o htg hbt R2 F2 ev (Q:=fun ρ'' H''=>Tb ρ'' H'' fun oo ρ₁ H₁=>match oo with | .next=>forT tg Tb it all (all.drop (j+1)) ρ₁ H₁ Q | .ret v=>Q (.ret v) ρ₁ H₁) w2) (fun uu s₃ z=>?_) fun uu uu z=>z.elim)
    obtain ⟨ρ₃,H₃,st3,R3,F3,w3⟩:=z
    have K3:=K2.own o F2 st3
    refine wpAny_mono (hb _ _ _ w3 A env s₃ r o R3 F3) (fun f s₄ z=>?_) fun uu uu z=>z.elim
    obtain ⟨oo,ρ₄,H₄,st4,R4,F4,fl,w4⟩:=z
    have st04:=(st02.trans st3).trans st4
    rcases oo with uu | v
    · obtain rfl:=fl
      exact ⟨_,less_of hx,j+1,H₄,ρ₄,rfl,st04,R4,F4,K3.own o F3 st4,w4⟩
    · obtain ⟨wv,rfl,e⟩:=fl
      exact ⟨.ret v,ρ₄,H₄,st04,R4,F4,⟨wv,rfl,e⟩,w4⟩
inductive WhI (G:GC) (fi:FI) (env:PySem.Env) (H₀:AH) (s₀:Shared) (W:Nat->Env->AH->Prop) (m:Nat) (s:Shared):Prop
  | mk (H:AH) (ρ:Env) (st:StepX (ownX fi env) H₀ s₀ H s) (R:Rep G H s) (F:FrR G fi env H ρ s) (w:W m ρ H)
theorem while_loop {k:Nat} {A:Around} (r:Room k A) (o:EnvOK fi env) {test:PE} {body:List Stmt} {Tt:Env->AH->(Bool->AH->Prop)->Prop} {Tb:Tr} (ht:∀ ρ H Q,Tt ρ H Q->WT G fi k test ρ H Q) (hb:∀ ρ H Q,Tb ρ H Q->WSs G fi k body ρ H Q)
    {H₀:AH} {s₀:Shared} {Q:PO} {E:Value->Shared->Prop} {n:Nat} (st:StepX (ownX fi env) H₀ s₀ H s) (R:Rep G H s) (F:FrR G fi env H ρ s) (w:whileT Tt Tb n ρ H Q) :
    codeAny (model G.prog G.w) A (.whileLoop test body [] env) (fun r s'=>match r with | .ok f=>PS G fi env H₀ s₀ Q f s' | .error e=>cameBackBy (model G.prog G.w) A env E e s') s:=by
  refine codeAny_whileLoop (WhI G fi env H₀ s₀ fun m ρ H=>whileT Tt Tb m ρ H Q) ?_ n ⟨H,ρ,st,R,F,w⟩
  rintro m s ⟨H,ρ,st,R,F,w⟩
  rcases m with uu | m
  · exact w.elim
  refine PA.then (ht _ _ _ w A env s r o R F) fun b H₁ b' s₁ st1 R1 e1 q1=>?_
  obtain rfl:=e1
  have F1:=F.step R st1
  have st01:=st.trans (Step.to (X:=ownX fi env) st1)
  rcases b with uu | uu
  · exact wpAny_execs_nil ⟨.next,ρ,H₁,st01,R1,F1,rfl,q1⟩
  · refine wpAny_mono (hb _ _ _ q1 A env s₁ r o R1 F1) (fun f s₂ z=>?_) fun uu uu z=>z.elim
    obtain ⟨oo,ρ₂,H₂,st2,R2,F2,fl,w2⟩:=z
    rcases oo with uu | v
    · obtain rfl:=fl
      exact ⟨m,Nat.lt_succ_self _,H₂,ρ₂,st01.trans st2,R2,F2,w2⟩
    · obtain ⟨wv,rfl,e⟩:=fl
      exact ⟨.ret v,ρ₂,H₂,st01.trans st2,R2,F2,⟨wv,rfl,e⟩,w2⟩
inductive Frz (G:GC) (x:V) (all:List V) (H:AH) (s:Shared):Prop
  | same (a:Nat) (e:x = .ref a) (o:AO) (h:H a=some o) (c:o.open=false) (f:freeze x H=H) (t:∀ H₂,thaw x H H₂ = H₂)
  | new (a:Nat) (e:x = .ref a) (o o':AO) (h:H a=some o) (c:o.open=true) (c':o'.open=false) (f:freeze x H=H.set a o') (t:∀ H₂,thaw x H H₂ = H₂.set a o) (r:RepO G s.heap a o->RepO G s.heap a o') (k:keysO (some o')=some all)
theorem frz_of {x:V} {all:List V} (h:keysF x H=some all):Frz G x all H s:=by
  rcases x with ⟨⟩ <;> try exact noS h
  rename_i a
  have h:keysO (H a)=some all:=h
  have hf:freeze (.ref a) H=freezeO H a (H a):=rfl
  have ht:∀ H₂,thaw (.ref a) H H₂ = thawO H₂ a (H a):=fun uu=>rfl
  rcases hH:H a with uu | ⟨⟨⟩⟩ <;> rw [hH] at h <;> try exact noS h
  · rename_i fz kvs
    rw [hH] at hf ht
    rcases fz with uu | uu
    · exact .new a rfl _ (.di true kvs) hH rfl rfl hf ht id h
    · exact .same a rfl _ hH rfl hf ht
  · rename_i fz kvs
    rw [hH] at hf ht
    rcases fz with uu | uu
    · exact .new a rfl _ (.ds true kvs) hH rfl rfl hf ht id h
    · exact .same a rfl _ hH rfl hf ht
structure FrzR (G:GC) (fi:FI) (env:PySem.Env) (x:V) (all:List V) (H:AH) (ρ:Env) (s:Shared):Prop where
  R:Rep G (freeze x H) s
  st:Step H s (freeze x H) s
  F:FrR G fi env (freeze x H) ρ s
  k:keysF x (freeze x H)=some all
  m:∀ a,x = .ref a->¬ Mu (freeze x H) a
theorem set_rep {a:Addr} {o o':AO} (R:Rep G H s) (h:H a=some o) (e:RepO G s.heap a o'):Rep G (H.set a o') s where
  own b o2 eb:=by
    by_cases hb:b=a
    · subst hb; rw [AH.set_self] at eb; exact Option.some.inj eb ▸ e
    · rw [AH.set_ne hb] at eb; exact R.own b o2 eb
  ground:=R.ground
  gmut b ob e:=(AH.set_ne (ne_H (R.gmut b ob e) h).symm).trans (R.gmut b ob e)
  xl b x:=⟨(AH.set_ne (ne_H (R.xl b x).1 h).symm).trans (R.xl b x).1,(R.xl b x).2⟩
  gens:=R.gens
  os:=R.os
  drawn:=R.drawn
theorem freeze_ok {x:V} {all:List V} (R:Rep G H s) (F:FrR G fi env H ρ s) (h:keysF x H=some all):FrzR G fi env x all H ρ s:=by
  rcases frz_of (G:=G) (s:=s) h with ⟨a,rfl,o,e,c,f,uu⟩ | ⟨a,rfl,o,o',e,c,c',f,uu,r,k⟩
  · refine ⟨f.symm ▸ R,f.symm ▸ StepX.refl,f.symm ▸ F,f.symm ▸ h,fun b hb m=>?_⟩
    obtain rfl:=V.refI hb
    obtain ⟨o2,e5,e6⟩:=f ▸ m
    obtain rfl:=Option.some.inj (e.symm.trans e5)
    exact nomatch c.symm.trans e6
  · have st:Step H s (H.set a o') s:=⟨fun uu uu e uu uu=>e,fun uu e=>e,fun b m=>(Mu_set m).elim (fun hb=>by
        obtain ⟨o2,e5,e6⟩:=m
        rw [hb,AH.set_self] at e5
        obtain rfl:=Option.some.inj e5
        exact nomatch c'.symm.trans e6) .inl,fun b ob eb hb=>(AH.set_ne (ne_H hb e).symm).trans hb,rfl,rfl,rfl⟩
    refine ⟨f.symm ▸ set_rep R e (r (R.own _ _ e)),f.symm ▸ st,f.symm ▸ F.step R st,?_,fun b hb m=>?_⟩
    · show keysO (freeze (.ref a) H a)=some all
      rw [f,AH.set_self]; exact k
    · obtain rfl:=V.refI hb
      obtain ⟨o2,e5,e6⟩:=f ▸ m
      rw [AH.set_self] at e5
      obtain rfl:=Option.some.inj e5
      exact nomatch c'.symm.trans e6
theorem own_none {a:Addr} {o:AO} (F:FrR G fi env H ρ s) (h:H a=some o):¬ ownX fi env a:=fun ha=>by
  rcases ha with rfl | ⟨y,h1,h2⟩
  · exact nomatch F.nL.symm.trans h
  · obtain ⟨i,hi,hx⟩:=List.mem_iff_getElem.mp (mem_of_lookup h1)
    obtain ⟨c,ov,k1,k2,uu⟩:=F.cells i y _ (by rw [List.getElem?_eq_getElem hi,hx]) (.inl rfl)
    obtain rfl:=Option.some.inj (h2.symm.trans k1)
    exact nomatch k2.1.symm.trans h
structure ThawR (G:GC) (fi:FI) (env:PySem.Env) (H:AH) (s:Shared) (H₂:AH) (ρ₂:Env) (s₂:Shared):Prop where
  st:StepX (ownX fi env) H s H₂ s₂
  R:Rep G H₂ s₂
  F:FrR G fi env H₂ ρ₂ s₂
theorem thaw_ok {x:V} {all:List V} {H₂:AH} {s₂:Shared} {ρ₂:Env} (o:EnvOK fi env) (R:Rep G H s) (F:FrR G fi env H ρ s) (h:keysF x H=some all) (st:StepX (ownX fi env) (freeze x H) s H₂ s₂) (R2:Rep G H₂ s₂) (F2:FrR G fi env H₂ ρ₂ s₂) :
    ThawR G fi env H s (thaw x H H₂) ρ₂ s₂:=by
  obtain ⟨z1,z2,z3,z4,z5⟩:=freeze_ok R F h
  have st':=(Step.to (X:=ownX fi env) z2).trans st
  rcases frz_of (G:=G) (s:=s) h with ⟨a,rfl,oo,e1,c,f,t⟩ | ⟨a,rfl,oo,o',e1,c,c',f,t,r,k⟩
  · rw [t H₂]; exact ⟨st',R2,F2⟩
  · rw [t H₂]
    have nm:=z5 a rfl
    obtain ⟨ob,eb,nb⟩:=(R.own _ _ e1).alive
    have ka:s₂.heap.get? a=some ob:=st.kp a ob eb nm (own_none F e1)
    have e4':RepO G s₂.heap a oo:=RepO.keep (StepX.imm z1 st fun b ob h e=>F.notImm o.nodup b ob h e) (eb.trans ka.symm) (R.own _ _ e1)
    have hn:∀ b,H b=none->b ≠ a:=fun b hb=>(ne_H hb e1).symm
    refine ⟨⟨st'.kp,st'.al,fun b m=>(Mu_set m).elim (fun hb=>.inl ⟨oo,hb ▸ e1,c⟩) fun m=>st'.dom b m,fun b ob2 e q=>(AH.set_ne (hn b q)).trans (st'.dm b ob2 e q),st'.gens,st'.os,st'.drawn⟩,?_,?_⟩
    · refine ⟨fun b o2 eb2=>?_,R2.ground,fun b ob2 e=>(AH.set_ne (hn b (R.gmut b ob2 e))).trans (R2.gmut b ob2 e),fun b x=>⟨(AH.set_ne (hn b (R.xl b x).1)).trans (R2.xl b x).1,(R2.xl b x).2⟩,R2.gens,R2.os,R2.drawn⟩
      by_cases hb:b=a
      · subst hb; rw [AH.set_self] at eb2; exact Option.some.inj eb2 ▸ e4'
      · rw [AH.set_ne hb] at eb2; exact R2.own b o2 eb2
    · refine ⟨(AH.set_ne (hn _ F.nL)).trans F2.nL,F2.gL,F2.ns,fun i x k h1 h2=>?_,F2.inj⟩
      obtain ⟨c,ov,q1,q2,q3,q4⟩:=F2.cells i x k h1 h2
      obtain ⟨c',ov',f1,f2,uu⟩:=F.cells i x k h1 h2
      obtain rfl:=Option.some.inj (q1.symm.trans f1)
      exact ⟨c,ov,q1,⟨(AH.set_ne (hn c f2.1)).trans q2.1,q2.2⟩,q3,q4⟩
end Mine
end
section
open PySem PySem.W PyProof.Rows PySem.SeqAt PySem.Calls
set_option maxRecDepth 100000
set_option maxHeartbeats 8000000
namespace Mine
variable {G:GC}
section
variable {C:Cl} {k:Nat} (hC:∀ f vs H Q,C f vs H Q->CallSem G k f vs H Q)
theorem swaps_no {v:PE} {t:Option PE} {l:Nat} {env:PySem.Env} (h:isComp v=false):swapsWith v t l env=pure false:=by
  rcases v with ⟨⟩ <;> first | exact rfl | exact nomatch h
theorem blockKind_fn {fi:FI} {env:PySem.Env} (o:EnvOK fi env):env.blockKind = .function:=by
  unfold Env.blockKind; rw [o.kind]; rfl
theorem swaps_yes {fi:FI} {env:PySem.Env} (o:EnvOK fi env) {elt:PE} {gens:List Comprehension} {sc:Scope} {pos p:Pos} {x:Str} {l:Nat} (h:swapOk fi x p (.ListComp elt gens sc pos)=true) :
    swapsWith (.ListComp elt gens sc pos) (some (.Name x p)) l env=pure true:=by
  have h:=Bool.and_eq_true_iff.mp h
  have h1:=Bool.and_eq_true_iff.mp h.1
  have hk:env.kindOf x=fi.lookup x:=by show env.scope.names.lookup x=_; rw [o.names]
  show (pure (env.blockKind == .function && env.kindOf x == some .local && p.line == (Expr.ListComp elt gens sc pos).pos.line && !(sc.names.any fun (n,k)=>n == x && (k == .local || k == .cell))):Sem Bool)=pure true
  rw [blockKind_fn o,hk,h1.1,h1.2]
  exact congrArg pure h.2
theorem isTup_swapped {env:PySem.Env} {ts:List PE} {tc:Nat} {tp:Pos} {v:PE} (h:asTup v=none):swappedStores [.Tuple ts tc tp] v env=pure none:=by
  rcases v with ⟨⟩ <;> first | exact rfl | exact nomatch h
variable {fi:FI} {env:PySem.Env}
noncomputable def locF (env:PySem.Env) (line:Nat):PE->Option Str:=fun | .Name id pos=>if env.kindOf id == some .local && pos.line == line then some id else none | _=>none
inductive LocR (fi:FI) (env:PySem.Env) (line:Nat) (es:List PE) (ns:List Str) (ts:List MT):Prop
  | mk (f:es.filterMap (locF env line)=ns) (l:ns.length=es.length) (xs:List (Nat × Str)) (e:ts=(xs.map (·.1)).map MT.var) (n:ns=xs.map (·.2)) (o:∀ p ∈ xs,nmOk fi p.1 p.2=true)
theorem chkT_e {t:MT} {P:PE->Prop} {e:PE} (h:chkT fi t e=true) (k1:∀ i x p,t = .var i->nmOk fi i x=true->P (.Name x p)) (k2:∀ o i x y p,t = .sub o i->notSlice y=true->chkE fi o x=true->chkE fi i y=true->P (.Subscript x y p)):P e:=by
  rcases t with i | ⟨o,i⟩
  · exact as_e asName_b h fun t h=>k1 i t.1 t.2 rfl h
  · exact as_e asSub_b h fun t h=>k2 o i t.1 t.2.1 t.2.2 rfl (Bool.and_eq_true_iff.mp (Bool.and_eq_true_iff.mp h).1).1 (Bool.and_eq_true_iff.mp (Bool.and_eq_true_iff.mp h).1).2 (Bool.and_eq_true_iff.mp h).2
theorem locNames_ok (o:EnvOK fi env) {line:Nat}:∀ {es:List PE} {ns:List Str},locNames fi line es=some ns->∀ {ts:List MT},chkTs fi ts es=true->LocR fi env line es ns ts
  | [],ns,h,[],hc=>Option.some.inj h ▸ ⟨rfl,rfl,[],rfl,rfl,List.forall_mem_nil _⟩
  | [],ns,h,_::_,hc=>absurd hc Bool.false_ne_true
  | _::_,_,_,[],hc=>absurd hc Bool.false_ne_true
  | e::es,ns,h,t::ts,hc=>by
    have hc:=Bool.and_eq_true_iff.mp hc
    refine chkT_e (P:=fun e=>locNames fi line (e::es)=some ns->LocR fi env line (e::es) ns (t::ts)) hc.1 (fun i x p ht hx h=>?_) (fun uu uu uu uu uu uu uu uu uu h=>noS h) h
    obtain ⟨hb,h⟩:=Option.ite_none_right_eq_some.mp h
    obtain ⟨ns',h1,rfl⟩:=Option.map_eq_some_iff.mp h
    obtain ⟨g1,g2,xs,g3,g4,g5⟩:=locNames_ok o h1 hc.2
    have hk:env.kindOf x=fi.lookup x:=by show env.scope.names.lookup x=_; rw [o.names]
    refine ⟨?_,congrArg (· + 1) g2,(i,x)::xs,by rw [ht,g3]; rfl,congrArg (x :: ·) g4,List.forall_mem_cons.mpr ⟨hx,g5⟩⟩
    rw [List.filterMap_cons,show locF env line (.Name x p)=some x from if_pos (hk.symm ▸ hb),g1]
inductive SwapR (fi:FI) (env:PySem.Env) (ts:List MT) (es vs:List PE) (n m:Nat) (p q:Pos):Prop
  | mk (xs:List (Nat × Str)) (e:ts=(xs.map (·.1)).map MT.var) (d:(xs.map (·.1)).Nodup) (o:∀ p ∈ xs,nmOk fi p.1 p.2=true) (s:swappedStores [.Tuple es n p] (.Tuple vs m q) env=pure (some (xs.map (·.2))))
theorem swapped_yes (o:EnvOK fi env) {es vs:List PE} {n m:Nat} {p q:Pos} {ts:List MT} (hc:chkTs fi ts es=true) (h:swap2Ok fi es (.Tuple vs m q)=true):SwapR fi env ts es vs n m p q:=by
  have h6:=Bool.and_eq_true_iff.mp h
  have h5:=Bool.and_eq_true_iff.mp h6.1
  have h4:=Bool.and_eq_true_iff.mp h5.1
  have h3:=Bool.and_eq_true_iff.mp h4.1
  have h2:=Bool.and_eq_true_iff.mp h3.1
  have h6:=h6.2
  rcases hns:locNames fi (lineOf es) es with uu | ns <;> rw [hns] at h6
  · exact absurd h6 Bool.false_ne_true
  have h6:=Bool.and_eq_true_iff.mp h6
  obtain ⟨g1,g2,xs,g3,g4,g5⟩:=locNames_ok o hns hc
  refine ⟨xs,g3,?_,g5,?_⟩
  · have hn:ns.Nodup:=of_decide_eq_true h6.2
    rw [g4] at hn
    rw [List.Nodup,List.pairwise_map] at hn ⊢
    refine hn.imp_of_mem fun {a b} ha hb hne he=>hne ?_
    obtain ⟨k1,e1,uu⟩:=nmGet (g5 a ha)
    obtain ⟨k2,e2,uu⟩:=nmGet (g5 b hb)
    rw [he,e2] at e1
    exact (Prod.mk.inj (Option.some.inj e1)).1.symm
  · rw [<- g4]
    have hline:(es.head?.map (·.pos.line)).getD 0=lineOf es:=by rcases es with uu | uu <;> rfl
    have hb:(env.blockKind != ScopeKind.function)=false:=by rw [blockKind_fn o]; rfl
    have e:swappedStores [.Tuple es n p] (.Tuple vs m q) env =
        (if (!(es.length == 2 || es.length == 3) || vs.length != es.length || env.blockKind != .function)=true then pure none
         else if (vs.any isStar)=true then pure none
         else if ((es.filterMap (locF env ((es.head?.map (·.pos.line)).getD 0))).length != es.length || (es.filterMap (locF env ((es.head?.map (·.pos.line)).getD 0))).eraseDups.length != (es.filterMap (locF env ((es.head?.map (·.pos.line)).getD 0))).length)=true then pure none
         else if (vs.all (foldedForSure 8))=true then pure none
         else if (vs.all (constantsAlone 8))=true then (do (unsupported "assign.tuple-of-constant-expressions:order-of-the-stores" : Sem Unit); pure (some (es.filterMap (locF env ((es.head?.map (·.pos.line)).getD 0)))))
         else pure (some (es.filterMap (locF env ((es.head?.map (·.pos.line)).getD 0))))):=by
      rw [show isStar=(fun x=>match x with | .Starred ..=>true | _=>false) from funext fun x=>by rcases x with ⟨⟩ <;> rfl]
      rfl
    rw [e,hline,g1]
    have h2':(vs.length != es.length)=false:=bne_eq_false_iff_eq.mpr (beq_iff_eq.mp h2.2)
    have a3:vs.any isStar=false:=Bool.not_eq_true' _ ▸ h3.2
    have a4:vs.all (foldedForSure 8)=false:=Bool.not_eq_true' _ ▸ h4.2
    have a5:vs.all (constantsAlone 8)=false:=Bool.not_eq_true' _ ▸ h5.2
    rw [h2.1,h2',hb,a3,a4,a5,g2]
    have e6:(ns.eraseDups.length != es.length)=false:=bne_eq_false_iff_eq.mpr ((beq_iff_eq.mp h6.1).trans g2)
    rw [e6]
    simp
theorem stores_bind {M:Model} {A:Around} {env:PySem.Env}:∀ (xs:List (Nat × Str)),StoresOf M A env xs (xs.map fun p=>bindName env p.2)
  | []=>.nil
  | (i,x)::xs=>.cons (fun w Q E s h=>wpAny_bindName h) (stores_bind xs)
theorem wpTs_vars:∀ {is:List Nat} {vs:List V} {ρ:Env} {H:AH} {Q:Env->AH->Prop},wpTs C (is.map MT.var) vs ρ H Q->is.length=vs.length/\Q (setVs ρ is vs) H
  | [],[],_,_,_,h=>⟨rfl,h⟩
  | [],_::_,_,_,_,h=>h.elim
  | _::_,[],_,_,_,h=>h.elim
  | i::is,v::vs,ρ,H,Q,h=>(wpTs_vars (is:=is) (vs:=vs) (ρ:=setV ρ i v) h).imp (congrArg (· + 1)) id
structure TsR (C:Cl) (G:GC) (fi:FI) (env:PySem.Env) (k:Nat) (ts:List MT) (es:List PE):Prop where
  f:(assignEach es env).findIdx? (·.1)=none
  l:(assignEach es env).length=ts.length
  w:∀ vs ρ H Q,wpTs C ts vs ρ H Q->∀ A ws s,Room k A->EnvOK fi env->Rep G H s->FrR G fi env H ρ s->RepVs G.X s.heap vs ws ->
      wpAny (model G.prog G.w) A (assignInOrder ((assignEach es env).map (·.2)) ws) (PT G fi env H s Q) F0 s
include hC in
theorem sTs (gk:GOK2 G):∀ (ts:List MT) (es:List PE),chkTs fi ts es=true->TsR C G fi env k ts es
  | [],es,h=>nil_e (P:=fun es=>TsR C G fi env k [] es) h ⟨rfl,rfl,fun vs ρ H Q w A ws s r o R F e=>by
    rcases vs with uu | uu
    · obtain rfl:ws=[]:=e
      exact wpAny_pure ⟨ρ,H,StepX.refl,R,F,w⟩
    · exact w.elim⟩
  | t::_,[],h=>absurd h Bool.false_ne_true
  | t::ts,e::es,h=>by
    have h:=Bool.and_eq_true_iff.mp h
    obtain ⟨h1,h2,h3⟩:=sTs gk ts es h.2
    refine chkT_e (P:=fun e=>TsR C G fi env k (t::ts) (e::es)) h.1 (fun i x p ht hx=>?_) fun ob ix x y p ht hn hx hy=>?_
    · subst ht
      refine ⟨findIdx_cons (x:=(false,assign (.Name x p) env)) rfl h1,congrArg (· + 1) h2,fun vs ρ H Q w A ws s r o R F e=>?_⟩
      rcases vs with uu | ⟨v,vs⟩
      · exact w.elim
      obtain ⟨u,ws,rfl,e1,e2⟩:=e
      show wpAny _ _ (do holding ws (assign (.Name x p) env u); assignInOrder ((assignEach es env).map (·.2)) ws) _ _ _
      obtain ⟨kd,k1,k2,uu⟩:=nmGet hx
      refine wpAny_bind (wpAny_holding (wpAny_assign_Name (storeVar o R F k1 k2 e1 fun s' st R' F' e'=>?_)))
      have st':StepX (ownX fi env) H s H s':=st.weaken (ownK_own o.nodup k1)
      exact PT.go st' (h3 vs _ H Q w A ws s' r o R' F' (e2.mono (own_imm o R F st')))
    · subst ht
      refine ⟨findIdx_cons (x:=(false,assign (.Subscript x y p) env)) rfl h1,congrArg (· + 1) h2,fun vs ρ H Q w A ws s r o R F e=>?_⟩
      rcases vs with uu | ⟨v,vs⟩
      · exact w.elim
      obtain ⟨u,ws,rfl,e1,e2⟩:=e
      show wpAny _ _ (do holding ws (assign (.Subscript x y p) env u); assignInOrder ((assignEach es env).map (·.2)) ws) _ _ _
      refine wpAny_bind (wpAny_holding ?_)
      rw [arm_assign_Subscript]
      refine wpAny_bind (wpAny_holding (PA.then ((sX hC gk ob).e fi x hx ρ H _ w A env s r o R F) fun xv H₁ xw s₁ st1 R1 f1 q1=>?_))
      refine wpAny_bind (wpAny_holding (PA.then ((sX hC gk ix).e fi y hy ρ H₁ _ q1 A env s₁ r o R1 (F.step R st1)) fun yv H₂ yw s₂ st2 R2 f2 q2=>?_))
      have st12:=st1.trans st2
      refine wpAny_bind (wpAny_standAt (wpAny_bind (wpAny_holding (optH q2 fun H₃ hb q2=>PA.then (store_sound R2 (f1.step R1 st2) f2 (e1.step R st12) hb (Q:=fun H'=>wpTs C ts vs ρ H' Q) q2) fun uu H₄ uu s₃ st3 R3 uu q3=>wpAny_release ?_))))
      have st13:=st12.trans st3
      exact PT.go (Step.to st13) (h3 vs ρ H₄ Q q3 A ws s₃ r o R3 (F.step R st13) (e2.step R st13))
end
end Mine
end
section
open PySem PySem.W PyProof.Rows PySem.SeqAt PySem.Calls
set_option maxRecDepth 100000
set_option maxHeartbeats 4000000
namespace Mine
noncomputable abbrev IsT (h:Heap) (T:Addr) (a:Array Value):Prop:=h.get? T=some { cls:=.type "tuple",data:=.seq a }
section
variable {prog:Program} {w:World} {A:Around} {E:Value->Shared->Prop} {s:Shared}
inductive Apart (z TO:Addr):List (Addr × Addr)->Prop
  | nil (h:TO ≠ z):Apart z TO []
  | cons {i l ps} (iz:i ≠ z) (iT:i ≠ TO) (lz:l ≠ z) (lT:l ≠ TO) (li:l ≠ i) (r:∀ q ∈ ps,q.1 ≠ i/\q.2 ≠ i/\l ≠ q.1) (t:Apart z TO ps):Apart z TO ((i,l)::ps)
theorem Apart.oz {z TO:Addr} {ps} (D:Apart z TO ps):TO ≠ z:=by induction D <;> assumption
inductive Its (h:Heap) (j:Nat):List (Addr × Addr)->Prop
  | nil:Its h j []
  | cons {i l ps} (e:h.IsListIter i l j) (t:Its h j ps):Its h j ((i,l)::ps)
inductive Draws (h:Heap) (j:Nat):List (Addr × Addr)->List Value->Prop
  | nil:Draws h j [] []
  | cons {i l ps xs w ws} (e:h.IsList l xs) (x:xs[j]? = some w) (t:Draws h j ps ws):Draws h j ((i,l)::ps) (w::ws)
inductive Ends (h:Heap) (j:Nat):List (Addr × Addr)->Prop
  | here {i l ps xs} (e:h.IsList l xs) (x:xs[j]? = none):Ends h j ((i,l)::ps)
  | there {i l ps xs w} (e:h.IsList l xs) (x:xs[j]? = some w) (t:Ends h j ps):Ends h j ((i,l)::ps)
variable {h h':Heap} {j:Nat} {ps:List (Addr × Addr)} {z TI TO:Addr}
theorem Its.move (x:Its h j ps) (k:∀ q ∈ ps,∀ o,h.get? q.1=some o->h'.get? q.1=some o):Its h' j ps:=by
  induction x with
  | nil=>exact .nil
  | cons e t ih=>exact .cons (e.at fun o=>k _ (.head _) o) (ih fun q hq=>k q (.tail _ hq))
theorem lkeep {l:Addr} {xs:Array Value} (x:h.IsList l xs) (k:∀ o,h.get? l=some o->h'.get? l=some o):h'.IsList l xs:=x.imp fun o e=>⟨k o e.1,e.2⟩
theorem Draws.move {ws:List Value} (x:Draws h j ps ws) (k:∀ q ∈ ps,∀ o,h.get? q.2=some o->h'.get? q.2=some o):Draws h' j ps ws:=by
  induction x with
  | nil=>exact .nil
  | cons e x t ih=>exact .cons (lkeep e fun o=>k _ (.head _) o) x (ih fun q hq=>k q (.tail _ hq))
theorem Ends.move (x:Ends h j ps) (k:∀ q ∈ ps,∀ o,h.get? q.2=some o->h'.get? q.2=some o):Ends h' j ps:=by
  induction x with
  | here e x=>exact .here (lkeep e fun o=>k _ (.head _) o) x
  | there e x t ih=>exact .there (lkeep e fun o=>k _ (.head _) o) x (ih fun q hq=>k q (.tail _ hq))
inductive ZS (z TO:Addr) (ps:List (Addr × Addr)):Addr->Prop
  | z:ZS z TO ps z
  | o:ZS z TO ps TO
  | i {q} (h:q ∈ ps):ZS z TO ps q.1
theorem ZS.up {p:Addr × Addr} {a:Addr} (x:ZS z TO ps a):ZS z TO (p::ps) a:=by
  rcases x with uu | uu | h
  · exact .z
  · exact .o
  · exact .i (.tail _ h)
theorem ZS.all {P:Addr->Prop} {a:Addr} (x:ZS z TO ps a) (h1:P z) (h2:P TO) (h3:∀ q ∈ ps,P q.1):P a:=by
  rcases x with uu | uu | uu
  · exact h1
  · exact h2
  · exact h3 _ ‹_›
theorem ZS.not {a:Addr} (h1:a ≠ z) (h2:a ≠ TO) (h3:∀ q ∈ ps,a ≠ q.1):¬ ZS z TO ps a:=fun x=>x.all (P:=fun b=>a=b->False) h1 h2 h3 rfl
noncomputable def ZKeep (z TO:Addr) (ps:List (Addr × Addr)) (h h':Heap):Prop:=∀ d o,¬ ZS z TO ps d->h.get? d=some o->h'.get? d=some o
noncomputable def setAll (k:Nat):Array Value->List Value->Array Value
  | a,[]=>a
  | a,w::ws=>setAll (k+1) (a.setIfInBounds k w) ws
theorem setAll_size:∀ (ws:List Value) (k:Nat) (a:Array Value),(setAll k a ws).size=a.size
  | [],_,_=>rfl
  | w::ws,k,a=>(setAll_size ws (k+1) _).trans (Array.size_setIfInBounds ..)
noncomputable def zbody (z TO:Addr) (e:Nat->Sem Fin) (p:Value × Nat) (_:Option Fin × Unit):Sem (ForInStep (Option Fin × Unit)) :=
  (do return some (<- Builtin.SmallTypes.nextOf p.1):Sem (Option Value)).onRaise (fun uu=>setField (.ref z) 0 .none) >>= fun o=>match o with
  | some x=>do
    match <- seqItems? (.ref TO) with
    | some kept=>do
      updateSeq TO (·.setIfInBounds p.2 x)
      letGo [kept.getD p.2 .none]
      pure (.yield (none,()))
    | _=>do
      let _ <- (unsupported "internal:zip.__next__" : Sem Unit)
      pure (.yield (none,()))
  | none=>do
    setField (.ref z) 0 .none
    let r <- e p.2
    pure (.done (some r,()))
noncomputable def zits (k:Nat) (ps:List (Addr × Addr)):List (Value × Nat):=(ps.map fun p=>Value.ref p.1).zipIdx k
structure ZEnd (z TI TO:Addr) (ps:List (Addr × Addr)) (j:Nat) (a:Array Value) (f:Value) (h h':Heap):Prop where
  hz:IsZip h' z TI TO f
  hT:IsT h' TO a
  its:Its h' j ps
  kp:ZKeep z TO ps h h'
  sz:h'.objs.size=h.objs.size
theorem mapT {T:Addr} {a:Array Value} {k:Nat} {x:Value} (hT:IsT h T a):IsT (h.update T (Obj.mapSeq (·.setIfInBounds k x))) T (a.setIfInBounds k x):=by
  have e:((a.setIfInBounds k x).size == a.size)=true:=beq_iff_eq.mpr (Array.size_setIfInBounds ..)
  refine (Heap.get?_update_self _ hT rfl).trans ?_
  show some (Obj.mk _ _ (.seq _ (if ((a.setIfInBounds k x).size == a.size)=true then 0 else 0+1)) _)=_
  rw [e]; rfl
theorem zturn {e:Nat->Sem Fin} {i l:Addr} {k:Nat} {a xs:Array Value} {x:Value} {Q:ForInStep (Option Fin × Unit)->Shared->Prop} (D:Apart z TO ((i,l)::ps)) (hz:IsZip s.heap z TI TO .ellipsis) (hT:IsT s.heap TO a) (ha:a.size=3) (hi:s.heap.IsListIter i l j) (hl:s.heap.IsList l xs) (hx:xs[j]? = some x)
    (q:∀ h',ZEnd z TI TO [(i,l)] (j+1) (a.setIfInBounds k x) .ellipsis s.heap h'->Q (.yield (none,())) { s with heap:=h' }):wpAny (model prog w) A (zbody z TO e (.ref i,k) (none,())) Q E s:=by
  obtain ⟨uu⟩ | ⟨iz,iT,lz,lT,li,r,t⟩:=D
  refine wpAny_bind (wpAny_onRaise (wpAny_bind (wpAny_nextOf_list_item hi hl hx fun h₁ r1 s₁=>wpAny_pure ?_)))
  have T1:IsT h₁ TO a:=s₁.extBut _ _ iT.symm hT
  refine wpAny_bind (wpAny_seqItems T1 rfl ?_)
  refine wpAny_bind (wpAny_updateSeq T1 rfl ?_ (ha ▸ by decide) (by rw [Array.size_setIfInBounds,ha]; decide))
  have s₂:=Heap.SameBut.update h₁ TO (Obj.mapSeq (·.setIfInBounds k x))
  refine wpAny_bind (wpAny_letGo (wpAny_pure (q _ ⟨s₂.extBut _ _ t.oz.symm (s₁.extBut _ _ iz.symm hz),mapT T1,.cons (r1.extBut s₂.extBut iT) .nil,fun d o hd h=>s₂.extBut _ _ (fun hh=>hd (hh ▸ .o)) (s₁.extBut _ _ (fun hh=>hd (hh ▸ .i (.head _))) h),s₂.1.trans s₁.1⟩)))
theorem forIn_wp {α β:Type} {M:Model} {f:α->β->Sem (ForInStep β)} {a:α} {as:List α} {b b':β} {Q:β->Shared->Prop} (h:wpAny M A (f a b) (fun r s'=>r = .yield b'/\wpAny M A (forIn as b' f) Q E s') E s):wpAny M A (forIn (a::as) b f) Q E s:=by
  rw [List.forIn_cons]
  exact wpAny_bind (wpAny_mono h (fun r s' q=>by obtain ⟨rfl,q⟩:=q; exact q) fun uu uu q=>q)
theorem ZS.lo {q:Addr × Addr} (D:Apart z TO ps) (h:q ∈ ps):¬ ZS z TO [] q.2:=by
  induction D with
  | nil _=>exact nomatch h
  | cons iz iT lz lT li r t ih=>
    rcases h with uu | h
    · rintro (uu | uu | h)
      · exact lz rfl
      · exact lT rfl
      · exact nomatch h
    · exact ih ‹_›
theorem Apart.iz {q:Addr × Addr} (D:Apart z TO ps) (h:q ∈ ps):q.1 ≠ z:=by
  induction D with
  | nil _=>exact nomatch h
  | cons iz iT lz lT li r t ih=>
    rcases h with uu | h
    · exact iz
    · exact ih ‹_›
theorem one_it {i:Addr} {l:Addr} {d:Addr} (h1:d ≠ z) (h2:d ≠ TO) (h3:d ≠ i):¬ ZS z TO [(i,l)] d:=ZS.not h1 h2 (List.forall_mem_cons.mpr ⟨h3,List.forall_mem_nil _⟩)
theorem Apart.its {i l:Addr} (D:Apart z TO ((i,l)::ps)):∀ q ∈ ps,¬ ZS z TO [(i,l)] q.1 /\ ¬ ZS z TO [(i,l)] q.2:=by
  obtain ⟨uu⟩ | ⟨uu,uu,uu,uu,uu,r,t⟩:=D
  intro q hq
  obtain ⟨h1,h2,uu⟩:=r q hq
  clear r
  induction t with
  | nil _=>exact nomatch hq
  | cons iz iT lz lT li r t ih=>
    rcases hq with uu | hq
    · exact ⟨one_it iz iT h1,one_it lz lT h2⟩
    · exact ih ‹_›
theorem ZKeep.tail {p:Addr × Addr} {h h₁ h₂:Heap} (x:ZKeep z TO [p] h h₁) (y:ZKeep z TO ps h₁ h₂):ZKeep z TO (p::ps) h h₂:=fun d o hd e=>y d o (fun q=>hd q.up) (x d o (fun q=>hd (q.all .z .o (List.forall_mem_cons.mpr ⟨.i (.head _),List.forall_mem_nil _⟩))) e)
theorem zloop {e:Nat->Sem Fin} {ws:List Value} (d:Draws s.heap j ps ws) (D:Apart z TO ps) (I:Its s.heap j ps) {a:Array Value} {k:Nat} (hz:IsZip s.heap z TI TO .ellipsis) (hT:IsT s.heap TO a) (ha:a.size=3) {Q:Option Fin × Unit->Shared->Prop}
    (q:∀ h',ZEnd z TI TO ps (j+1) (setAll k a ws) .ellipsis s.heap h'->Q (none,()) { s with heap:=h' }):wpAny (model prog w) A (forIn (zits k ps) (none,()) (zbody z TO e)) Q E s:=by
  revert s ws
  induction ps generalizing a k with
  | nil=>
    intro s ws d I hz hT q
    obtain ⟨⟩:=d
    exact wpAny_pure (q s.heap ⟨hz,hT,.nil,fun uu uu uu e=>e,rfl⟩)
  | cons p ps ih=>
    intro s ws d I hz hT q
    obtain ⟨uu⟩ | ⟨d1,d2,d3⟩:=d
    obtain ⟨uu⟩ | ⟨i1,i2⟩:=I
    refine forIn_wp (zturn D hz hT ha i1 d1 d2 fun h₁ z1=>⟨rfl,?_⟩)
    have k1:=D.its
    obtain ⟨uu⟩ | ⟨iz,iT,lz,lT,li,r,t⟩:=D
    refine ih t ((Array.size_setIfInBounds ..).trans ha) (d3.move fun q hq o e=>z1.kp _ o (k1 q hq).2 e) (i2.move fun q hq o e=>z1.kp _ o (k1 q hq).1 e) z1.hz z1.hT fun h₂ z2=>?_
    obtain ⟨uu⟩ | ⟨i1',uu⟩:=z1.its
    refine q h₂ ⟨z2.hz,z2.hT,.cons (i1'.at fun o e=>z2.kp _ o (fun x=>?_) e) z2.its,z1.kp.tail z2.kp,z2.sz.trans z1.sz⟩
    obtain ⟨x⟩ | ⟨x⟩ | ⟨x⟩:=x
    · exact iz rfl
    · exact iT rfl
    · exact (r _ x).1 rfl
theorem zloop_end {e:Nat->Sem Fin} (hh:A.handled=none) (d:Ends s.heap j ps) (D:Apart z TO ps) (I:Its s.heap j ps) {a:Array Value} {k:Nat} (hz:IsZip s.heap z TI TO .ellipsis) (hT:IsT s.heap TO a) (ha:a.size=3) {Q:Option Fin × Unit->Shared->Prop}
    (q:∀ h' x,ZKeep z TO ps s.heap h'->(∃ o,h'.get? x=some o/\o.cls = .type "StopIteration")->E (.ref x) { s with heap:=h' }):wpAny (model prog w) A (forIn (zits k ps) (none,()) (zbody z TO e)) Q E s:=by
  revert s
  induction ps generalizing a k with
  | nil=>intro s d; exact nomatch d
  | cons p ps ih=>
    intro s d I hz hT q
    obtain ⟨uu⟩ | ⟨i1,i2⟩:=I
    obtain ⟨d1,d2⟩ | ⟨d1,d2,d3⟩:=d
    · show wpAny _ _ (forIn (_::zits (k+1) ps) _ _) _ _ _
      rw [List.forIn_cons]
      refine wpAny_bind (wpAny_bind (wpAny_onRaise (wpAny_bind (wpAny_nextOf_list_end hh i1 d1 d2 fun h₁ x s₁ hx=>?_))))
      obtain ⟨uu⟩ | ⟨iz,iT,lz,lT,li,r,t⟩:=D
      have y₁:IsZip h₁ z TI TO .ellipsis:=s₁ _ _ iz.symm hz
      obtain ⟨o,ho,hc⟩:=hx
      have hxz:x ≠ z:=fun h=>absurd (Value.type.inj ((congrArg Obj.cls (Option.some.inj ((h ▸ ho).symm.trans y₁))).symm.trans hc)) (by decide)
      exact wpAny_setField_rec y₁ (Nat.zero_lt_succ _) fun h₂ uu s₂=>q h₂ x (fun d o hd e=>s₂.extBut _ _ (fun h=>hd (h ▸ .z)) (s₁ _ _ (fun h=>hd (h ▸ .i (.head _))) e)) ⟨o,s₂.extBut _ _ hxz ho,hc⟩
    · refine forIn_wp (zturn D hz hT ha i1 d1 d2 fun h₁ z1=>⟨rfl,?_⟩)
      have k1:=D.its
      obtain ⟨uu⟩ | ⟨iz,iT,lz,lT,li,r,t⟩:=D
      exact ih t ((Array.size_setIfInBounds ..).trans ha) (d3.move fun q hq o e=>z1.kp _ o (k1 q hq).2 e) (i2.move fun q hq o e=>z1.kp _ o (k1 q hq).1 e) z1.hz z1.hT fun h₂ x z2 hx=>q h₂ x (z1.kp.tail z2) hx
structure ZAt (h:Heap) (z TI TO:Addr) (ps:List (Addr × Addr)) (j:Nat) (f0:Value):Prop where
  hz:IsZip h z TI TO f0
  hTI:IsT h TI (ps.map fun p=>Value.ref p.1).toArray
  hTO:∃ a,IsT h TO a/\a.size=3
  its:Its h j ps
structure ZItem (z TI TO:Addr) (ps:List (Addr × Addr)) (j:Nat) (ws:List Value) (h h':Heap):Prop where
  at_:ZAt h' z TI TO ps (j+1) (rawInt h.objs.size)
  new:∃ b:Array Value,b.size=3/\IsT h' h.objs.size (setAll 0 b ws)
  kp:ZKeep z TO ps h h'
theorem zip_next {Q:Option Value->Shared->Prop} (hh:A.handled=none) (ne:(ps.map fun p=>Value.ref p.1).toArray.isEmpty=false) (Z:ZAt s.heap z TI TO ps j .none) (D:Apart z TO ps) (nI:¬ ZS z TO ps TI) (d:(∃ ws,Draws s.heap j ps ws) \/ Ends s.heap j ps)
    (q1:∀ ws h',Draws s.heap j ps ws->ZItem z TI TO ps j ws s.heap h'->Q (some (.ref s.heap.objs.size)) { s with heap:=h' }) (q2:∀ h',Ends s.heap j ps->ZKeep z TO ps s.heap h'->Q none { s with heap:=h' }) :
    wpAny (model prog w) A (pyNext (.ref z)) Q E s:=by
  obtain ⟨hz,hTI,⟨a,hTO,ha⟩,its⟩:=Z
  have hT:s.TypeIs (.ref z) "zip" := ⟨_,hz,rfl⟩
  unfold pyNext
  refine wpAny_bind (wpAny_attempt (wpAny_callSpecial?_slot (name:=Str.ofString "__next__") hT PySem.F.slot_zip_next (wpAny_call_entry PySem.F.slot_zip_next hT PySem.F.entry_zip_next ?_ (PySem.F.args_zip_next_1 _))))
  show wpAny _ _ (field (.ref z) 2 >>= _) _ _ _
  refine wpAny_bind (wpAny_field hz rfl (x:=.bool false) rfl ?_)
  show wpAny _ _ (field (.ref z) 3 >>= _) _ _ _
  refine wpAny_bind (wpAny_field hz rfl (x:=.ref TI) rfl ?_)
  refine wpAny_bind (wpAny_seqItems hTI rfl ?_)
  simp only [ne,Bool.false_eq_true,if_false]
  refine wpAny_bind ?_
  unfold Builtin.SmallTypes.ownedTupleIsFree
  refine wpAny_bind (wpAny_field hz rfl (x:=.none) rfl (wpAny_pure ?_))
  simp only [if_true]
  refine wpAny_bind (wpAny_rule ?_)
  refine wpAny_bind (wpAny_field hz rfl (x:=.ref TO) rfl ?_)
  refine wpAny_bind (wpAny_setField_rec hz (Nat.zero_lt_succ _) fun h₁ y₁ s₁=>?_)
  have y₁:IsZip h₁ z TI TO .ellipsis:=y₁
  have k1:∀ q ∈ ps,∀ o,s.heap.get? q.2=some o->h₁.get? q.2=some o:=fun q hq o e=>s₁.extBut _ _ (fun h=>ZS.lo D hq (h ▸ .z)) e
  have k2:Its h₁ j ps:=its.move fun q hq o e=>s₁.extBut _ _ (D.iz hq) e
  have t1:IsT h₁ TO a:=s₁.extBut _ _ D.oz hTO
  have kz:ZKeep z TO ps s.heap h₁:=fun d o hd e=>s₁.extBut _ _ (fun h=>hd (h ▸ .z)) e
  refine wpAny_bind ?_
  rcases d with ⟨ws,d⟩ | d
  · refine zloop (k:=0) (d.move k1) D k2 y₁ t1 ha fun h₂ z2=>?_
    have hb:(setAll 0 a ws).size=3:=(setAll_size ..).trans ha
    refine wpAny_bind (wpAny_seqItems z2.hT rfl ?_)
    refine wpAny_bind (wpAny_newTuple ?_ (by rw [Array.length_toList,hb]; decide))
    refine wpAny_bind ?_
    show wpAny _ _ (Builtin.SmallTypes.ownedTupleHandOut (.ref z) (.ref h₂.objs.size)) _ _ _
    unfold Builtin.SmallTypes.ownedTupleHandOut
    have y₃:IsZip (h₂.push { cls:=.type "tuple",data:=.seq (setAll 0 a ws).toList.toArray }) z TI TO .ellipsis:=Heap.get?_push_of_some _ z2.hz
    refine wpAny_bind (wpAny_setField_rec y₃ (Nat.zero_lt_succ _) fun h₄ y₄ s₄=>?_)
    refine wpAny_setField_rec y₄ (Nat.succ_lt_succ (Nat.zero_lt_succ _)) fun h₅ y₅ s₅=>wpAny_pure ⟨_,rfl,wpAny_pure ?_⟩
    have y₅:IsZip h₅ z TI TO (rawInt h₂.objs.size):=y₅
    have up:∀ d o,d ≠ z->h₂.get? d=some o->h₅.get? d=some o:=fun d o hd e=>s₅.extBut _ _ hd (s₄.extBut _ _ hd (Heap.get?_push_of_some _ e))
    have hsz:h₂.objs.size=s.heap.objs.size:=z2.sz.trans s₁.1
    have nz:h₂.objs.size ≠ z:=(Nat.ne_of_lt (Heap.lt_size z2.hz)).symm
    have tN:IsT h₅ h₂.objs.size (setAll 0 a ws):=by
      have:=s₅.extBut _ _ nz (s₄.extBut _ _ nz (Heap.get?_push_size h₂ (o:={ cls:=.type "tuple",data:=.seq (setAll 0 a ws).toList.toArray }) rfl))
      rw [Array.toArray_toList] at this
      exact this
    rw [hsz] at y₅ tN
    show Q (some (.ref h₂.objs.size)) _
    rw [hsz]
    exact q1 ws h₅ d ⟨⟨y₅,up _ _ (fun h=>nI (h ▸ .z)) (z2.kp _ _ nI (s₁.extBut _ _ (fun h=>nI (h ▸ .z)) hTI)),⟨_,up _ _ D.oz z2.hT,hb⟩,z2.its.move fun q hq o e=>up _ o (D.iz hq) e⟩,⟨a,ha,tN⟩,fun d o hd e=>up d o (fun h=>hd (h ▸ .z)) (z2.kp d o hd (kz d o hd e))⟩
  · refine zloop_end (A:=A.in1) (prog:=prog) (w:=w) (s:={ s with heap:=h₁ }) (k:=0) hh (d.move k1) D k2 y₁ t1 ha fun h₂ x z2 hx=>?_
    refine wpAny_bind (wpAny_isInstance (T := "StopIteration") (b:=true) hx isSubtype_stop (wpAny_pure (q2 h₂ d fun d o hd e=>z2 d o hd (kz d o hd e))))
theorem letGo3 {elts:List Expr} {x1} {pos:Pos} {z TI TO T:Addr} {Q:Unit->Shared->Prop} (hz:IsZip s.heap z TI TO (rawInt T))
    (hQ:∀ h',IsZip h' z TI TO .none->Heap.SameBut z s.heap h'->Q () { s with heap:=h' }) :
    wpAny (model prog w) A (letOwnedTupleGo (.Tuple elts x1 pos) (.ref z) (.ref T)) Q E s:=wpAny_letOwnedTupleGo_zip hz hQ
noncomputable abbrev tH1 (h:Heap) (l1:Addr):Heap:=h.push { cls:=.type "list_iterator",data:=.fields #[.ref l1,.int 0 0] }
noncomputable abbrev tH2 (h:Heap) (l1 l2:Addr):Heap:=(tH1 h l1).push { cls:=.type "list_iterator",data:=.fields #[.ref l2,.int 0 0] }
noncomputable abbrev tH3 (h:Heap) (l1 l2 l3:Addr):Heap:=(tH2 h l1 l2).push { cls:=.type "list_iterator",data:=.fields #[.ref l3,.int 0 0] }
noncomputable abbrev tH4 (h:Heap) (l1 l2 l3:Addr):Heap:=(tH3 h l1 l2 l3).push { cls:=.type "tuple",data:=.seq #[.ref h.objs.size,.ref (tH1 h l1).objs.size,.ref (tH2 h l1 l2).objs.size] }
noncomputable abbrev tH5 (h:Heap) (l1 l2 l3:Addr):Heap:=(tH4 h l1 l2 l3).push { cls:=.type "tuple",data:=.seq #[.none,.none,.none] }
noncomputable abbrev tH6 (h:Heap) (l1 l2 l3:Addr):Heap:=(tH5 h l1 l2 l3).push { cls:=.type "zip",data:=.fields #[.none,.bool false,.bool false,.ref (tH3 h l1 l2 l3).objs.size,.ref (tH4 h l1 l2 l3).objs.size] }
theorem meets_zip3 (l1 l2 l3:Addr) (xs ys vs:Array Value) :
    Meets (Builtin.«zip.__new__» ⟨[.type "zip",.ref l1,.ref l2,.ref l3],[]⟩) (fun uu R s=>s.heap.IsList l1 xs/\s.heap.IsList l2 ys/\s.heap.IsList l3 vs /\
      R (.ok (.ret (.ref (tH5 s.heap l1 l2 l3).objs.size))) { s with heap:=tH6 s.heap l1 l2 l3 }) :=
  .of_wp fun prog w A R s h=>by
    obtain ⟨hp,g,d,tk,os⟩:=s; obtain ⟨hl1,hl2,hl3,h⟩:=h
    have hsub:=sub_zip
    have hL1:Heap.IsList (Shared.heap ⟨hp,g,d,tk,os⟩) l1 xs:=hl1
    have hL2:Heap.IsList (Shared.heap ⟨hp.push { cls:=.type "list_iterator",data:=.fields #[.ref l1,.int 0 0] },g,d,tk,os⟩) l2 ys:=Heap.IsList.push hl2 _
    have hL3:Heap.IsList (Shared.heap ⟨(hp.push { cls:=.type "list_iterator",data:=.fields #[.ref l1,.int 0 0] }).push { cls:=.type "list_iterator",data:=.fields #[.ref l2,.int 0 0] },g,d,tk,os⟩) l3 vs:=Heap.IsList.push (Heap.IsList.push hl3 _) _
    wp_walk using wpAny_pyIter_list hL1,wpAny_pyIter_list hL2,wpAny_pyIter_list hL3
    exact ⟨_,rfl,h⟩
theorem typeCall_zip_3 (a b c:Value):checkTypeCall "zip" ⟨[a,b,c],[]⟩=pure ():=by kernel_rfl
theorem newCall_zip_3 (a b c:Value):checkBuiltinCall "zip.__new__" ⟨[.type "zip",a,b,c],[]⟩=pure ():=by kernel_rfl
theorem args_object_init_4 (a b c d:Value):argsOk "object.__init__" ⟨[a,b,c,d],[]⟩:=by
  unfold argsOk; rw [signature?_of (id := "object.__init__") (n:=['_','_','t','i','n','i','_','_']) (o:=['t','c','e','j','b','o']) (by kernel_rfl) PySem.F.owner_object]; kernel_rfl
theorem lsLt {l:Addr} {xs:Array Value} (x:h.IsList l xs):l<h.objs.size:=by obtain ⟨o,e,uu⟩:=x; exact Heap.lt_size e
theorem lt_ne {l n k:Nat} (h:l<n):l ≠ n+k:=Nat.ne_of_lt (Nat.lt_of_lt_of_le h (Nat.le_add_right _ _))
theorem add_ne {n j k:Nat} (h:j ≠ k):n+j ≠ n+k:=fun e=>h (Nat.add_left_cancel e)
structure ZNew (l1 l2 l3:Addr) (z TI TO:Addr) (ps:List (Addr × Addr)) (h h':Heap):Prop where
  ap:Apart z TO ps
  at_:ZAt h' z TI TO ps 0 .none
  nI:¬ ZS z TO ps TI
  fr:∀ a,(a=TI \/ ZS z TO ps a)->h.get? a=none
  lst:ps.map (·.2)=[l1,l2,l3]
  k:∀ c o,h.get? c=some o->h'.get? c=some o
theorem call_zip3 {l1 l2 l3:Addr} {xs ys vs:Array Value} {Q:Value->Shared->Prop} (hl1:s.heap.IsList l1 xs) (hl2:s.heap.IsList l2 ys) (hl3:s.heap.IsList l3 vs)
    (h:∀ h' z TI TO ps,ZNew l1 l2 l3 z TI TO ps s.heap h'->Q (.ref z) { s with heap:=h' }) :
    wpAny (model prog w) A (call (.type "zip") [.ref l1,.ref l2,.ref l3]) Q E s:=by
  refine callType_new PySem.F.called_zip (by decide) (typeCall_zip_3 _ _ _) (newCall_zip_3 _ _ _) (fun obj=>args_object_init_4 obj _ _ _) PySem.F.entry_zip_new (meets_zip3 l1 l2 l3 xs ys vs) ⟨hl1,hl2,hl3,?_⟩
  have z1:(tH1 s.heap l1).objs.size=s.heap.objs.size+1:=Heap.size_push ..
  have z2:(tH2 s.heap l1 l2).objs.size=s.heap.objs.size+2:=(Heap.size_push ..).trans (congrArg (· + 1) z1)
  have z3:(tH3 s.heap l1 l2 l3).objs.size=s.heap.objs.size+3:=(Heap.size_push ..).trans (congrArg (· + 1) z2)
  have z4:(tH4 s.heap l1 l2 l3).objs.size=s.heap.objs.size+4:=(Heap.size_push ..).trans (congrArg (· + 1) z3)
  have z5:(tH5 s.heap l1 l2 l3).objs.size=s.heap.objs.size+5:=(Heap.size_push ..).trans (congrArg (· + 1) z4)
  have k5:∀ a o,(tH5 s.heap l1 l2 l3).get? a=some o->(tH6 s.heap l1 l2 l3).get? a=some o:=fun uu uu=>Heap.get?_push_of_some _
  have k4:∀ a o,(tH4 s.heap l1 l2 l3).get? a=some o->(tH6 s.heap l1 l2 l3).get? a=some o:=fun a o x=>k5 a o (Heap.get?_push_of_some _ x)
  have k3:∀ a o,(tH3 s.heap l1 l2 l3).get? a=some o->(tH6 s.heap l1 l2 l3).get? a=some o:=fun a o x=>k4 a o (Heap.get?_push_of_some _ x)
  have k2:∀ a o,(tH2 s.heap l1 l2).get? a=some o->(tH6 s.heap l1 l2 l3).get? a=some o:=fun a o x=>k3 a o (Heap.get?_push_of_some _ x)
  have k1:∀ a o,(tH1 s.heap l1).get? a=some o->(tH6 s.heap l1 l2 l3).get? a=some o:=fun a o x=>k2 a o (Heap.get?_push_of_some _ x)
  have g6:(tH6 s.heap l1 l2 l3).get? (tH5 s.heap l1 l2 l3).objs.size=some _:=Heap.get?_push_size _ rfl
  have g5:=k5 _ _ (Heap.get?_push_size (tH4 s.heap l1 l2 l3) (o:={ cls:=.type "tuple",data:=.seq #[.none,.none,.none] }) rfl)
  have g4:=k4 _ _ (Heap.get?_push_size (tH3 s.heap l1 l2 l3) (o:={ cls:=.type "tuple",data:=.seq #[.ref s.heap.objs.size,.ref (tH1 s.heap l1).objs.size,.ref (tH2 s.heap l1 l2).objs.size] }) rfl)
  have g3:=k3 _ _ (Heap.get?_push_size (tH2 s.heap l1 l2) (o:={ cls:=.type "list_iterator",data:=.fields #[.ref l3,.int 0 0] }) rfl)
  have g2:=k2 _ _ (Heap.get?_push_size (tH1 s.heap l1) (o:={ cls:=.type "list_iterator",data:=.fields #[.ref l2,.int 0 0] }) rfl)
  have g1:=k1 _ _ (Heap.get?_push_size s.heap (o:={ cls:=.type "list_iterator",data:=.fields #[.ref l1,.int 0 0] }) rfl)
  rw [z5] at g6 ⊢
  rw [z4] at g5 g6
  rw [z3] at g4 g6
  rw [z2] at g3 g4
  rw [z1] at g2 g4
  have b1:=lsLt hl1
  have b2:=lsLt hl2
  have b3:=lsLt hl3
  have i0:∀ l,l<s.heap.objs.size->l ≠ s.heap.objs.size:=fun l h=>Nat.ne_of_lt h
  have le:∀ k,s.heap.get? (s.heap.objs.size+k)=none:=fun k=>Heap.get?_none_of_le (Nat.le_add_right _ _)
  have c0:∀ k,0 ≠ k->s.heap.objs.size ≠ s.heap.objs.size+k:=fun k=>add_ne (j:=0)
  refine ⟨⟨_,g6,rfl⟩,h _ (s.heap.objs.size+5) (s.heap.objs.size+3) (s.heap.objs.size+4) [(s.heap.objs.size,l1),(s.heap.objs.size+1,l2),(s.heap.objs.size+2,l3)] ⟨?_,⟨g6,g4,⟨_,g5,rfl⟩,.cons ⟨_,g1,rfl,rfl⟩ (.cons ⟨_,g2,rfl,rfl⟩ (.cons ⟨_,g3,rfl,rfl⟩ .nil))⟩,?_,?_,rfl,fun c o x=>k1 _ _ (Heap.get?_push_of_some _ x)⟩⟩
  · refine .cons (c0 5 (by decide)) (c0 4 (by decide)) (lt_ne b1) (lt_ne b1) (i0 _ b1) (List.forall_mem_cons.mpr ⟨⟨(c0 1 (by decide)).symm,i0 _ b2,lt_ne b1⟩,List.forall_mem_cons.mpr ⟨⟨(c0 2 (by decide)).symm,i0 _ b3,lt_ne b1⟩,List.forall_mem_nil _⟩⟩) ?_
    refine .cons (add_ne (by decide)) (add_ne (by decide)) (lt_ne b2) (lt_ne b2) (lt_ne b2) (List.forall_mem_cons.mpr ⟨⟨add_ne (by decide),lt_ne b3,lt_ne b2⟩,List.forall_mem_nil _⟩) ?_
    exact .cons (add_ne (by decide)) (add_ne (by decide)) (lt_ne b3) (lt_ne b3) (lt_ne b3) (List.forall_mem_nil _) (.nil (add_ne (by decide)))
  · refine ZS.not (add_ne (by decide)) (add_ne (by decide)) (List.forall_mem_cons.mpr ⟨(c0 3 (by decide)).symm,List.forall_mem_cons.mpr ⟨add_ne (by decide),List.forall_mem_cons.mpr ⟨add_ne (by decide),List.forall_mem_nil _⟩⟩⟩)
  · refine fun a ha=>ha.elim (fun e=>e ▸ le 3) fun x=>ZS.all (P:=fun b=>s.heap.get? b=none) x (le 5) (le 4) (List.forall_mem_cons.mpr ⟨le 0,List.forall_mem_cons.mpr ⟨le 1,List.forall_mem_cons.mpr ⟨le 2,List.forall_mem_nil _⟩⟩⟩)
end
end Mine
end
section
open PySem PySem.W PyProof.Rows PySem.SeqAt PySem.Calls
set_option maxRecDepth 100000
set_option maxHeartbeats 4000000
namespace Mine
variable {G:GC} {X:Addr->Prop}
theorem NsR.map {fi:FI} {L:Addr} {ρ:Env} {h h':Heap} (i:Imm2 G.X X h h') (k:∀ o,h.get? L=some o->h'.get? L=some o) (n:NsR G fi L ρ h):NsR (G.hide X) fi L ρ h':=by
  obtain ⟨m,n,r⟩:=n
  exact ⟨m,ns_keep n k,fun i' x v h1 h2=>(r i' x v h1 h2).imp fun uu z=>⟨z.1,z.2.map i⟩⟩
theorem FrR.map {fi:FI} {env:PySem.Env} {H:AH} {ρ:Env} {s s':Shared} (F:FrR G fi env H ρ s) (i:Imm2 G.X X s.heap s'.heap) (k:∀ a,DictO s.heap a \/ (∃ v,s.heap.IsCell a v)->∀ o,s.heap.get? a=some o->s'.heap.get? a=some o):FrR (G.hide X) fi env H ρ s' where
  nL:=F.nL
  gL:=F.gL
  ns:=F.ns.map i (k _ (.inl F.dictL))
  cells i' x kd h1 h2:=by
    obtain ⟨c,ov,e1,e2,e3,e4⟩:=F.cells i' x kd h1 h2
    exact ⟨c,ov,e1,e2,cell_keep e3 (k _ (.inr ⟨_,e3⟩)),fun v hv=>(e4 v hv).imp fun uu z=>⟨z.1,z.2.map i⟩⟩
  inj:=F.inj
structure ChgS (G:GC) (H:AH) (s:Shared) (S:Addr->Prop) (h':Heap):Prop where
  k:∀ b o,¬ S b->s.heap.get? b=some o->h'.get? b=some o
  nH:∀ a,S a->H a=none
  ng:∀ a,S a->G.g₀.get? a=none
  ni:∀ a,S a->G.X a \/ ItObj s.heap a
theorem itobj_ni {h:Heap} {a:Addr} {o:Obj} (x:ItObj h a) (e:h.get? a=some o):¬ immut o:=by
  obtain ⟨o',e',fs,d,c⟩:=x
  obtain rfl:=Option.some.inj (e.symm.trans e')
  exact fld_ni d c
theorem itobj_fld {h:Heap} {a:Addr} (x:ItObj h a):FldO h a:=by
  obtain ⟨o',e',fs,d,c⟩:=x
  exact ⟨o',e',fs,d⟩
variable {H:AH} {s:Shared} {S:Addr->Prop} {h':Heap}
theorem ChgS.imm (c:ChgS G H s S h'):Imm G.X s.heap h':=fun b o e i nx=>c.k b o (fun hb=>(c.ni b hb).elim nx fun x=>itobj_ni x e i) e
theorem ChgS.own (c:ChgS G H s S h') (R:Rep G H s) {X:Addr->Prop} (i:Imm2 G.X X s.heap h') (b:Nat) (o:AO) (e:H b=some o):RepO (G.hide X) h' b o :=
  (R.own b o e).map i fun ob q=>c.k b ob (fun hb=>nomatch (c.nH b hb).symm.trans e) q
theorem ChgS.ground (c:ChgS G H s S h') (R:Rep G H s) (b:Addr) (o:Obj) (e:G.g₀.get? b=some o):h'.get? b=some o:=c.k b o (fun hb=>nomatch (c.ng b hb).symm.trans e) (R.ground b o e)
theorem ChgS.rep (c:ChgS G H s S h') (R:Rep G H s) (al:∀ a,S a->∃ o,h'.get? a=some o):Rep G H { s with heap:=h' } where
  own:=c.own R (X:=G.X) c.imm.two
  ground:=c.ground R
  gmut:=R.gmut
  xl b x:=⟨(R.xl b x).1,(Classical.em (S b)).elim (al b) fun hb=>(R.xl b x).2.imp fun o e=>c.k b o hb e⟩
  gens:=R.gens
  os:=R.os
  drawn:=R.drawn
theorem ChgS.step (c:ChgS G H s S h') (al:∀ a,S a->∃ o,h'.get? a=some o):StepX S H s H { s with heap:=h' } :=
  ⟨fun b o e uu n=>c.k b o n e,fun b e=>(Classical.em (S b)).elim (fun hb=>(al b hb).elim fun uu x=>nomatch (show h'.get? b=none from e).symm.trans x) fun hb=>al1 (fun o x=>c.k b o hb x) e,fun uu h=>.inl h,fun uu uu uu h=>h,rfl,rfl,rfl⟩
inductive PlO (h:Heap) (a:Addr):Prop
  | fld (x:FldO h a)
  | seq (o:Obj) (e:h.get? a=some o) (xs:Array Value) (n:Nat) (d:o.data = .seq xs n)
theorem PlO.dict {h:Heap} {a:Addr} (p:PlO h a) (d:DictO h a):False:=by
  rcases p with x | ⟨o,e,xs,n,d'⟩
  · exact fld_dict x d
  · obtain ⟨o',e',es,ep,d⟩:=d
    obtain rfl:=Option.some.inj (e.symm.trans e')
    exact nomatch d.symm.trans d'
theorem PlO.cell {h:Heap} {a:Addr} (p:PlO h a) {v:Option Value} (c:h.IsCell a v):False:=by
  rcases p with x | ⟨o,e,xs,n,d'⟩
  · exact cell_fld c x
  · obtain ⟨o',e',d⟩:=c
    obtain rfl:=Option.some.inj (e.symm.trans e')
    exact nomatch d.symm.trans d'
theorem FrR.notOwn {fi:FI} {env:PySem.Env} {ρ:Env} (F:FrR G fi env H ρ s) {p:Addr} (h:PlO s.heap p):¬ ownX fi env p:=fun ha=>by
  rcases ha with rfl | ⟨y,h1,h2⟩
  · exact h.dict F.dictL
  · obtain ⟨i,hi,hx⟩:=List.mem_iff_getElem.mp (mem_of_lookup h1)
    obtain ⟨c,ov,k1,uu,k3,uu⟩:=F.cells i y _ (by rw [List.getElem?_eq_getElem hi,hx]) (.inl rfl)
    obtain rfl:=Option.some.inj (h2.symm.trans k1)
    exact h.cell k3
theorem FrR.chg {fi:FI} {env:PySem.Env} {ρ:Env} (F:FrR G fi env H ρ s) (c:ChgS G H s S h') (pl:∀ a,S a->PlO s.heap a) {X:Addr->Prop} (i:Imm2 G.X X s.heap h'):FrR (G.hide X) fi env H ρ { s with heap:=h' } :=
  F.map (s':={ s with heap:=h' }) i fun a d o e=>c.k a o (fun hs=>d.elim (pl a hs).dict fun d=>d.elim fun uu d=>(pl a hs).cell d) e
noncomputable abbrev GX (G:GC) (T:Addr):GC:=G.hide fun a=>G.X a \/ a=T
variable {T:Addr}
theorem imm_in {h:Heap} (hT:h.get? T=none) (k:∀ b o,h.get? b=some o->h'.get? b=some o):Imm2 G.X (GX G T).X h h':=fun a o e uu n=>⟨k a o e,fun q=>q.elim n fun q=>absurd q (ne_new hT e)⟩
theorem imm_out {h:Heap} (i:Imm (GX G T).X h h'):Imm2 (GX G T).X G.X h h':=fun a o e m n=>⟨i a o e m n,fun q=>n (.inl q)⟩
theorem Rep.addX (R:Rep G H s) (hT:s.heap.get? T=none) (k:∀ b o,s.heap.get? b=some o->h'.get? b=some o) (al:∃ o,h'.get? T=some o):Rep (GX G T) H { s with heap:=h' } where
  own a o e:=(R.own a o e).map (imm_in hT k) (k a)
  ground a o e:=k _ _ (R.ground a o e)
  gmut:=R.gmut
  xl a x:=x.elim (fun x=>⟨(R.xl a x).1,(R.xl a x).2.imp fun o e=>k a o e⟩) fun x=>x ▸ ⟨R.fresh hT,al⟩
  gens:=R.gens
  os:=R.os
  drawn:=R.drawn
theorem FrR.addX {fi:FI} {env:PySem.Env} {ρ:Env} (F:FrR G fi env H ρ s) (hT:s.heap.get? T=none) (k:∀ b o,s.heap.get? b=some o->h'.get? b=some o):FrR (GX G T) fi env H ρ { s with heap:=h' }:=F.map (s':={ s with heap:=h' }) (imm_in hT k) fun a uu=>k a
theorem Rep.out (R:Rep (GX G T) H s) (c:ChgS (GX G T) H s S h') (nX:∀ a,S a->¬ G.X a):Rep G H { s with heap:=h' } where
  own:=c.own R (imm_out c.imm)
  ground:=c.ground R
  gmut:=R.gmut
  xl b x:=⟨(R.xl b (.inl x)).1,(R.xl b (.inl x)).2.imp fun o e=>c.k b o (fun hs=>nX b hs x) e⟩
  gens:=R.gens
  os:=R.os
  drawn:=R.drawn
theorem ChgS.none:ChgS G H s (fun uu=>False) s.heap:=⟨fun uu uu uu e=>e,fun uu h=>h.elim,fun uu h=>h.elim,fun uu h=>h.elim⟩
theorem Rep.subX (R:Rep (GX G T) H s):Rep G H s:=R.out .none fun uu h=>h.elim
theorem FrR.subX {fi:FI} {env:PySem.Env} {ρ:Env} (F:FrR (GX G T) fi env H ρ s):FrR G fi env H ρ s:=F.chg .none (fun uu h=>h.elim) (imm_out (Imm.refl _))
theorem GOK2.addX (gk:GOK2 G):GOK2 (GX G T):=⟨⟨gk.base.1,gk.base.2,gk.base.3,gk.base.4,gk.base.5⟩,gk.gints,gk.bis,gk.zip,gk.cl,gk.fns,gk.initU⟩
end Mine
end
section
open PySem PySem.W PyProof.Rows PySem.SeqAt PySem.Calls
set_option maxRecDepth 100000
set_option maxHeartbeats 4000000
namespace Mine
variable {G:GC} {fi:FI} {env:PySem.Env} {H:AH} {s:Shared} {ρ:Env} {z TI TO:Addr} {ps:List (Addr × Addr)} {j:Nat}
inductive Zip3R (H:AH) (ps:List (Addr × Addr)) (all:List V):Prop
  | mk (i1 l1 i2 l2 i3 l3:Addr) (xs ys vs:List V) (e:ps=[(i1,l1),(i2,l2),(i3,l3)]) (g1:H l1=some (.list xs)) (g2:H l2=some (.list ys)) (g3:H l3=some (.list vs)) (a:all=(xs.zip (ys.zip vs)).map fun p=>V.tup [p.1,p.2.1,p.2.2])
theorem ps3 {l1 l2 l3:Addr} {P:List (Addr × Addr)->Prop} (h:∀ i1 i2 i3,P [(i1,l1),(i2,l2),(i3,l3)]):∀ {ps:List (Addr × Addr)},ps.map (·.2)=[l1,l2,l3]->P ps
  | [],e=>nomatch e
  | [_],e=>nomatch e
  | [_,_],e=>nomatch e
  | (i1,a)::(i2,b)::(i3,c)::t,e=>by
    obtain ⟨e1,e⟩:=List.cons.inj e
    obtain ⟨e2,e⟩:=List.cons.inj e
    obtain ⟨e3,e⟩:=List.cons.inj e
    obtain rfl:=List.map_eq_nil_iff.mp e
    obtain rfl:a=l1:=e1
    obtain rfl:b=l2:=e2
    obtain rfl:c=l3:=e3
    exact h i1 i2 i3
theorem still_zip {a b c:Nat} {all:List V} (hp:ps.map (·.2)=[a,b,c]) (h:still (.zip [a,b,c]) all H):Zip3R H ps all:=by
  obtain ⟨xs,e1,h⟩:=bind_e (show zipAt H [a,b,c]=some all from h)
  obtain ⟨ys,e2,h⟩:=bind_e h
  obtain ⟨vs,e3,h⟩:=bind_e h
  exact ps3 (P:=fun ps=>Zip3R H ps all) (fun i1 i2 i3=>⟨i1,_,i2,_,i3,_,xs,ys,vs,rfl,listAt_e e1,listAt_e e2,listAt_e e3,(Option.some.inj h).symm⟩) hp
inductive Item1 (X:Addr->Prop) (h:Heap) (l:Addr) (j:Nat) (v:V):Prop
  | mk (xs:Array Value) (w:Value) (e:h.IsList l xs) (x:xs[j]? = some w) (r:RepV X h v w)
inductive End1 (h:Heap) (l:Addr) (j:Nat):Prop
  | mk (xs:Array Value) (e:h.IsList l xs) (x:xs[j]? = none)
theorem item1 {l:Addr} {xs:List V} {v:V} (R:Rep G H s) (h:H l=some (.list xs)) (x:xs[j]? = some v):Item1 G.X s.heap l j v:=by
  obtain ⟨items,n,e,r⟩:=R.list h
  obtain ⟨w,hw,rw⟩:=r.get x
  exact ⟨items,w,⟨_,e,rfl,n,rfl⟩,Array.getElem?_toList ▸ hw,rw⟩
theorem end1 {l:Addr} {xs:List V} (R:Rep G H s) (h:H l=some (.list xs)) (x:xs[j]? = none):End1 s.heap l j:=by
  obtain ⟨items,n,e,r⟩:=R.list h
  exact ⟨items,⟨_,e,rfl,n,rfl⟩,Array.getElem?_eq_none (Nat.le_trans (Nat.le_of_eq (Array.length_toList.symm.trans r.length)) (List.getElem?_eq_none_iff.mp x))⟩
theorem any1 {l:Addr} {xs:List V} (R:Rep G H s) (h:H l=some (.list xs)) (j:Nat):End1 s.heap l j \/ ∃ v,Item1 G.X s.heap l j v/\xs[j]? = some v:=by
  rcases x:xs[j]? with uu | v
  · exact .inl (end1 R h x)
  · exact .inr ⟨v,item1 R h x,rfl⟩
inductive DrawR (X:Addr->Prop) (h:Heap) (j:Nat) (ps:List (Addr × Addr)) (x:V):Prop
  | mk (a b c:V) (u v w:Value) (e:x = .tup [a,b,c]) (d:Draws h j ps [u,v,w]) (r:RepVs X h [a,b,c] [u,v,w])
theorem zip_some {all:List V} {x:V} (R:Rep G H s) (Z:Zip3R H ps all) (hx:all[j]? = some x):DrawR G.X s.heap j ps x:=by
  obtain ⟨i1,l1,i2,l2,i3,l3,xs,ys,vs,rfl,g1,g2,g3,rfl⟩:=Z
  rw [List.getElem?_map,Option.map_eq_some_iff] at hx
  obtain ⟨⟨a,b,c⟩,h,rfl⟩:=hx
  obtain ⟨h1,h⟩:=List.getElem?_zip_eq_some.mp h
  obtain ⟨h2,h3⟩:=List.getElem?_zip_eq_some.mp h
  obtain ⟨uu,u,e1,x1,r1⟩:=item1 R g1 h1
  obtain ⟨uu,v,e2,x2,r2⟩:=item1 R g2 h2
  obtain ⟨uu,w,e3,x3,r3⟩:=item1 R g3 h3
  exact ⟨a,b,c,u,v,w,rfl,.cons e1 x1 (.cons e2 x2 (.cons e3 x3 .nil)),.cons' r1 (.cons' r2 (.one r3))⟩
theorem zip_none {all:List V} (R:Rep G H s) (Z:Zip3R H ps all) (hx:all[j]? = none):Ends s.heap j ps:=by
  obtain ⟨i1,l1,i2,l2,i3,l3,xs,ys,vs,rfl,g1,g2,g3,rfl⟩:=Z
  rw [List.getElem?_map,Option.map_eq_none_iff] at hx
  rcases any1 R g1 j with ⟨uu,e,x⟩ | ⟨a,⟨uu,uu,e1,x1,uu⟩,h1⟩
  · exact .here e x
  rcases any1 R g2 j with ⟨uu,e,x⟩ | ⟨b,⟨uu,uu,e2,x2,uu⟩,h2⟩
  · exact .there e1 x1 (.here e x)
  rcases any1 R g3 j with ⟨uu,e,x⟩ | ⟨c,⟨uu,uu,e3,x3,uu⟩,h3⟩
  · exact .there e1 x1 (.there e2 x2 (.here e x))
  exact nomatch hx.symm.trans (List.getElem?_zip_eq_some (z:=(a,b,c)).mpr ⟨h1,List.getElem?_zip_eq_some.mpr ⟨h2,h3⟩⟩)
theorem lst_eq {h:Heap} {l:Addr} {xs ys:Array Value} (x:h.IsList l xs) (y:h.IsList l ys):xs=ys:=by
  obtain ⟨o,e,uu,n,d⟩:=x
  obtain ⟨o',e',uu,n',d'⟩:=y
  obtain rfl:=Option.some.inj (e.symm.trans e')
  exact (Data.seq.inj (d.symm.trans d')).1
theorem Draws.det {h:Heap} {ws us:List Value} (d:Draws h j ps ws) (d':Draws h j ps us):ws=us:=by
  induction d generalizing us with
  | nil=>obtain ⟨⟩:=d'; rfl
  | cons e x t ih=>
    obtain ⟨⟩ | ⟨e',x',t'⟩:=d'
    obtain rfl:=lst_eq e e'
    obtain rfl:=Option.some.inj (x.symm.trans x')
    rw [ih t']
theorem Draws.no {h:Heap} {ws:List Value} (d:Draws h j ps ws) (en:Ends h j ps):False:=by
  induction d with
  | nil=>exact nomatch en
  | cons e x t ih=>
    obtain ⟨e',x'⟩ | ⟨e',x',t'⟩:=en
    · obtain rfl:=lst_eq e e'
      exact nomatch x.symm.trans x'
    · exact ih t'
theorem set3 {b:Array Value} {x y v:Value} (h:b.size=3):setAll 0 b [x,y,v] = #[x,y,v]:=by
  rcases b with ⟨uu | ⟨p,uu | ⟨q,uu | ⟨r,uu | ⟨t,l⟩⟩⟩⟩⟩
  · exact nomatch h
  · exact nomatch h
  · exact nomatch h
  · rfl
  · exact nomatch h
structure ZFix (G:GC) (s₀:Shared) (z TI TO:Addr) (ps:List (Addr × Addr)):Prop where
  ap:Apart z TO ps
  nI:¬ ZS z TO ps TI
  ng:∀ a,a=TI \/ ZS z TO ps a->G.g₀.get? a=none
  fr:∀ a,a=TI \/ ZS z TO ps a->s₀.heap.get? a=none
  nX:∀ a,a=TI \/ ZS z TO ps a->¬ G.X a
structure ZSt (H:AH) (h:Heap) (z TI TO:Addr) (ps:List (Addr × Addr)) (j:Nat):Prop where
  at_:ZAt h z TI TO ps j .none
  nH:∀ a,a=TI \/ ZS z TO ps a->H a=none
theorem its_obj {h:Heap} {q:Addr × Addr} (I:Its h j ps) (hq:q ∈ ps):ItObj h q.1:=by
  induction I with
  | nil=>exact nomatch hq
  | cons e t ih=>
    rcases hq with uu | hq
    · obtain ⟨o,e,c,d⟩:=e
      exact ⟨o,e,_,d,fun q=>absurd (Value.type.inj (c.symm.trans q)) (by decide)⟩
    · exact ih ‹_›
theorem ZAt.zob {h:Heap} {f0:Value} (Z:ZAt h z TI TO ps j f0):ItObj h z:=⟨_,Z.hz,_,rfl,fun q=>absurd (Value.type.inj q) (by decide)⟩
theorem ZAt.pl {h:Heap} {f0:Value} (Z:ZAt h z TI TO ps j f0) (a:Addr) (x:ZS z TO ps a):PlO h a :=
  x.all (.fld (itobj_fld Z.zob)) (by obtain ⟨uu,e,uu⟩:=Z.hTO; exact .seq _ e _ _ rfl) fun q hq=>.fld (itobj_fld (its_obj Z.its hq))
theorem ZAt.plI {h:Heap} {f0:Value} (Z:ZAt h z TI TO ps j f0) (a:Addr) (x:a=TI \/ ZS z TO ps a):PlO h a:=x.elim (fun e=>e ▸ .seq _ Z.hTI _ _ rfl) (Z.pl a)
theorem ZAt.al {h:Heap} {f0:Value} (Z:ZAt h z TI TO ps j f0) (a:Addr) (x:ZS z TO ps a):∃ o,h.get? a=some o:=by
  rcases Z.pl a x with ⟨⟨o,e,uu⟩⟩ | ⟨o,e,uu⟩ <;> exact ⟨o,e⟩
theorem ZAt.ni {h:Heap} {f0:Value} (Z:ZAt h z TI TO ps j f0) (a:Addr) (x:ZS z TO ps a):(GX G TO).X a \/ ItObj h a :=
  x.all (P:=fun a=>(GX G TO).X a \/ ItObj h a) (.inr Z.zob) (.inl (.inr rfl)) fun q hq=>.inr (its_obj Z.its hq)
theorem ZAt.keep {h h':Heap} {f0:Value} (Z:ZAt h z TI TO ps j f0) (k:∀ a,a=TI \/ ZS z TO ps a->∀ o,h.get? a=some o->h'.get? a=some o):ZAt h' z TI TO ps j f0 :=
  ⟨k z (.inr .z) _ Z.hz,k TI (.inl rfl) _ Z.hTI,Z.hTO.imp fun a x=>⟨k TO (.inr .o) _ x.1,x.2⟩,Z.its.move fun q hq o e=>k _ (.inr (.i hq)) o e⟩
theorem ZSt.step {Y:Addr->Prop} {H':AH} {s':Shared} (Z:ZSt H s.heap z TI TO ps j) (x:StepX Y H s H' s') (hY:∀ p,PlO s.heap p->¬ Y p):ZSt H' s'.heap z TI TO ps j :=
  ⟨Z.at_.keep fun a ha o e=>x.kp a o e (noMu (Z.nH a ha)) (hY a (Z.at_.plI a ha)),fun a ha=>by
    rcases Z.at_.plI a ha with ⟨⟨o,e,uu⟩⟩ | ⟨o,e,uu⟩ <;> exact x.dm a o e (Z.nH a ha)⟩
theorem ZSt.chg {h':Heap} {s₀:Shared} (Z:ZSt H s.heap z TI TO ps j) (X:ZFix G s₀ z TI TO ps) (k:ZKeep z TO ps s.heap h'):ChgS (GX G TO) H s (ZS z TO ps) h' :=
  ⟨k,fun a ha=>Z.nH a (.inr ha),fun a ha=>X.ng a (.inr ha),Z.at_.ni⟩
inductive ZipI (G:GC) (fi:FI) (env:PySem.Env) (H₀:AH) (s₀:Shared) (z TI TO:Addr) (ps:List (Addr × Addr)) (all:List V) (W:Nat->Env->AH->Prop) (m:Nat) (s:Shared):Prop
  | mk (j:Nat) (H:AH) (ρ:Env) (e:m=all.length - j) (st:StepX (ownX fi env) H₀ s₀ H s) (R:Rep (GX G TO) H s) (F:FrR (GX G TO) fi env H ρ s) (Z:ZSt H s.heap z TI TO ps j) (w:W j ρ H)
theorem zip_loop {k:Nat} {A:Around} (r:Room k A) (o:EnvOK fi env) {is:List Nat} {target:PE} (htg:tgtOk fi (.many is) target=true) {body:List Stmt} {Tb:Tr} (hb:∀ ρ H Q,Tb ρ H Q->WSs (GX G TO) fi k body ρ H Q)
    {l1 l2 l3:Nat} (hp:ps.map (·.2)=[l1,l2,l3]) {all:List V} {H₀:AH} {s₀:Shared} {Q:PO} {E:Value->Shared->Prop} (X:ZFix G s₀ z TI TO ps) (st:StepX (ownX fi env) H₀ s₀ H s) (R:Rep (GX G TO) H s) (F:FrR (GX G TO) fi env H ρ s) (Z:ZSt H s.heap z TI TO ps 0)
    (w:forT (.many is) Tb (.zip [l1,l2,l3]) all all ρ H Q) :
    codeAny (model G.prog G.w) A (.forLoop target (.ref z) body [] env) (fun r s'=>match r with | .ok f=>PS G fi env H₀ s₀ Q f s' | .error e=>cameBackBy (model G.prog G.w) A env E e s') s:=by
  refine codeAny_forLoop_any (ZipI G fi env H₀ s₀ z TI TO ps all fun j ρ H=>forT (.many is) Tb (.zip [l1,l2,l3]) all (all.drop j) ρ H Q) ?_ all.length ⟨0,H,ρ,rfl,st,R,F,Z,w⟩
  have ne:(ps.map fun p=>Value.ref p.1).toArray.isEmpty=false:=ps3 (P:=fun ps=>(ps.map fun p=>Value.ref p.1).toArray.isEmpty=false) (fun uu uu uu=>rfl) hp
  rintro m s ⟨j,H,ρ,rfl,st,R,F,Z,w⟩
  rcases hx:all[j]? with uu | x
  · obtain ⟨w1,w2⟩:=forT_n hx w
    have en:=zip_none R (still_zip hp w1) hx
    refine zip_next r.1 ne Z.at_ X.ap X.nI (.inr en) (fun ws h' d uu=>(d.no en).elim) fun h' uu kk=>wpAny_execs_nil ?_
    have c:=Z.chg X kk
    exact ⟨.next,ρ,H,⟨fun b oo e m n=>kk b oo (fun hb=>nomatch (X.fr b (.inr hb)).symm.trans e) (st.kp b oo e m n),fun b e=>(Classical.em (ZS z TO ps b)).elim (fun hb=>X.fr b (.inr hb)) fun hb=>st.al b (al1 (fun oo x=>kk b oo hb x) e),st.dom,st.dm,st.gens,st.os,st.drawn⟩,
      R.out c fun a ha=>X.nX a (.inr ha),F.chg c Z.at_.pl (imm_out c.imm),rfl,w2⟩
  · obtain ⟨ρ',w1,hbt,w2⟩:=forT_c hx w
    obtain ⟨xa,xb,xc,u,v,w,rfl,d,rv⟩:=zip_some R (still_zip hp w1) hx
    refine zip_next r.1 ne Z.at_ X.ap X.nI (.inl ⟨_,d⟩) (fun ws h' d' zi=>?_) fun h' en uu=>(d.no en).elim
    obtain rfl:=d.det d'
    obtain ⟨za,⟨b3,hb3,eT⟩,kk⟩:=zi
    refine as_e (P:=fun target=>wpAny _ _ (letOwnedTupleGo target _ _) _ _ _) asTup_b htg fun t ht=>?_
    refine letGo3 za.hz fun h'' u1 hs2=>?_
    have k2:∀ b o,b ≠ z->h'.get? b=some o->h''.get? b=some o:=fun b o hb e=>hs2.extBut b o hb e
    have kk2:ZKeep z TO ps s.heap h'':=fun d o hd e=>k2 d o (fun h=>hd (h ▸ .z)) (kk d o hd e)
    have za2:ZAt h'' z TI TO ps (j+1) .none:=⟨u1,k2 _ _ (fun h=>X.nI (h ▸ .z)) za.hTI,za.hTO.imp fun a x=>⟨k2 _ _ X.ap.oz x.1,x.2⟩,za.its.move fun q hq o e=>k2 _ o (X.ap.iz hq) e⟩
    have c:=Z.chg X kk2
    have R3:=c.rep R za2.al
    have F3:FrR (GX G TO) fi env H ρ { s with heap:=h'' }:=F.chg c Z.at_.pl (Imm.two c.imm)
    have st3:StepX (ownX fi env) H₀ s₀ H { s with heap:=h'' }:=st.snoc (c.step za2.al) fun a h=>.inr (X.fr a (.inr h))
    have nz:s.heap.objs.size ≠ z:=fun hh=>nomatch (hh ▸ none_size s.heap).symm.trans Z.at_.hz
    have eT:IsT h'' s.heap.objs.size #[u,v,w]:=set3 hb3 ▸ k2 _ _ nz eT
    have nT:¬ (GX G TO).X s.heap.objs.size:=fun x=>(R.xl _ x).2.elim fun uu e=>nomatch (none_size _).symm.trans e
    have eV:RepV (GX G TO).X h'' (.tup [xa,xb,xc]) (.ref s.heap.objs.size):=⟨_,_,_,rfl,eT,nT,rv.mono c.imm⟩
    have Z3:ZSt H h'' z TI TO ps (j+1):=⟨za2,Z.nH⟩
    refine wpAny_mono (bind_sound (G:=GX G TO) r.1 o htg hbt R3 F3 eV (Q:=fun ρ'' H''=>Tb ρ'' H'' fun oo ρ₁ H₁=>match oo with | .next=>forT (.many is) Tb (.zip [l1,l2,l3]) all (all.drop (j+1)) ρ₁ H₁ Q | .ret v=>Q (.ret v) ρ₁ H₁) w2) (fun uu s₃ zz=>?_) fun uu uu zz=>zz.elim
    obtain ⟨ρ₃,H₃,st4,R4,F4,w3⟩:=zz
    have Z4:ZSt H₃ s₃.heap z TI TO ps (j+1):=Z3.step (s:={ s with heap:=h'' }) st4 fun p hp=>F3.notOwn hp
    refine wpAny_mono (hb _ _ _ w3 A env s₃ r o R4 F4) (fun f s₄ zz=>?_) fun uu uu zz=>zz.elim
    obtain ⟨oo,ρ₄,H₄,st5,R5,F5,fl,w4⟩:=zz
    have st05:=(st3.trans st4).trans st5
    rcases oo with uu | v
    · obtain rfl:=fl
      exact ⟨_,less_of hx,j+1,H₄,ρ₄,rfl,st05,R5,F5,Z4.step st5 fun p hp=>F4.notOwn hp,w4⟩
    · obtain ⟨wv,rfl,e⟩:=fl
      exact ⟨.ret v,ρ₄,H₄,st05,R5.subX,F5.subX,⟨wv,rfl,e.map (imm_out (Imm.refl _))⟩,w4⟩
end Mine
end
section
open PySem PySem.W PyProof.Rows PySem.SeqAt PySem.Calls
set_option maxRecDepth 100000
set_option maxHeartbeats 8000000
namespace Mine
variable {G:GC}
theorem chk_notSet {fi:FI} {m:ME} {e:PE} (h:chkE fi m e=true):notSet e=true:=by
  rcases e with ⟨⟩ <;> first | exact rfl | (rcases m with ⟨⟩ <;> exact absurd h Bool.false_ne_true)
theorem not_e {b:Bool} (h:(!b)=true):b=false:=by rcases b <;> first | rfl | exact h.symm
theorem assignStores_some {env:PySem.Env} {v:Value} {names:List Str} {stores:List (Value->Sem Unit)}:assignStores env v (some names) stores=(do
    rule "assign.swapped-stores"
    let items <- unpackItems v names.length none
    assignInOrder (names.reverse.map fun n=>bindName env n) items.reverse
    pure .next):=rfl
theorem swapsSole {t v:PE} {l:Nat} {env:PySem.Env}:swapsWithSole [t] v l env=swapsWith v (some t) l env:=rfl
theorem evalThenUse_list {elt:PE} {gens:List Comprehension} {sc:Scope} {pos:Pos} {env:PySem.Env} {use:Value->Sem Unit}:evalThenUse (.ListComp elt gens sc pos) env use=(do
    let _ <- comprehension (.ListComp elt gens sc pos) sc env (firstIterPos gens pos) (newList []) (firstAsync gens) (firstIter gens env) (some use)):=rfl
theorem one1_e {f:PE->Bool} {P:List PE->Prop}:∀ {l:List PE},one1 f l=true->(∀ t,f t=true->P [t])->P l
  | [],h,_=>absurd h Bool.false_ne_true
  | t::r,h,k=>nil_e (P:=fun r=>P (t::r)) (Bool.and_eq_true_iff.mp h).1 (k t (Bool.and_eq_true_iff.mp h).2)
theorem intV {K:Int->Prop} {P:Prop} {v:V} (q:match v with | .int b=>K b | _=>False) (h:∀ b,v = .int b->K b->P):P:=by
  rcases v with ⟨⟩ <;> first | exact q.elim | exact h _ rfl q
theorem optI {K:Int->Prop} {P:Prop} {v:Option V} (q:match v with | some (.int b)=>K b | _=>False) (h:∀ b,v=some (.int b)->K b->P):P:=by
  rcases v with uu | v
  · exact q.elim
  · rcases v with ⟨⟩ <;> first | exact q.elim | exact h _ rfl q
inductive Ref3 (H:AH) (v:List V) (p:V × List V):Prop
  | mk (a b c:Nat) (e:v=[.ref a,.ref b,.ref c]) (h:zipAt H [a,b,c]=some p.2) (q:p.1 = .zip [a,b,c])
theorem zipF_e {H:AH}:∀ {v:List V} {p:V × List V},zipF v H=some p->Ref3 H v p
  | [x,y,z],p,h=>by
    obtain ⟨q,h1,h⟩:=bind_e h
    obtain ⟨c,h2,h⟩:=bind_e h
    obtain ⟨vs,h3,rfl⟩:=Option.map_eq_some_iff.mp h
    obtain ⟨rfl,rfl⟩:=refs_e h1
    have:=ref1_e h2
    obtain rfl:z = .ref c:=(List.cons.inj this).1
    exact ⟨q.1,q.2,c,rfl,h3,rfl⟩
  | [],_,h=>noS h
  | [_],_,h=>noS h
  | [_,_],_,h=>noS h
  | _::_::_::_::_,_,h=>noS h
theorem optZ {K:(V × List V)->Prop} {P:Prop}:∀ {o:Option (V × List V)},(match o with | some r=>K r | none=>False)->(∀ r,o=some r->K r->P)->P
  | some r,q,h=>h r rfl q
  | none,q,_=>q.elim
theorem optN {K:List V->Prop} {N P:Prop}:∀ {o:Option (List V)},(match o with | some r=>K r | none=>N)->(∀ r,o=some r->K r->P)->(o=none->N->P)->P
  | some r,q,h,_=>h r rfl q
  | none,q,_,h=>h rfl q
theorem PS.next {fi:FI} {env:PySem.Env} {H H':AH} {s s' s₂:Shared} {Q:PO} (st:StepX (ownX fi env) H s H' s') (h:PT G fi env H' s' (fun ρ₁ H₁=>Q .next ρ₁ H₁) () s₂):PS G fi env H s Q .next s₂:=by
  obtain ⟨ρ',H',st2,R2,F2,q2⟩:=h
  exact ⟨.next,ρ',H',st.trans st2,R2,F2,rfl,q2⟩
theorem PS.done {fi:FI} {env:PySem.Env} {H H':AH} {s s':Shared} {Q:PO} {ρ:Env} (R:Rep G H s) (F:FrR G fi env H ρ s) (st:Step H s H' s') (R':Rep G H' s') (q:Q .next ρ H'):PS G fi env H s Q .next s':=⟨.next,ρ,H',Step.to st,R',F.step R st,rfl,q⟩
section
variable {C:Cl} {k:Nat} (hC:∀ G,GOK2 G->∀ f vs H Q,C f vs H Q->CallSem G k f vs H Q)
noncomputable def SS (C:Cl) (k:Nat) (m:MS):Prop:=∀ G,GOK2 G->∀ fi st,chkS fi m st=true->∀ ρ H Q,wpS C m ρ H Q->WS G fi k st ρ H Q
noncomputable def SSs (C:Cl) (k:Nat) (ms:List MS):Prop:=∀ G,GOK2 G->∀ fi ss,chkSs fi ms ss=true->∀ ρ H Q,wpSs C ms ρ H Q->WSs G fi k ss ρ H Q
theorem swap_loc {fi:FI} {x:Str} {p:Pos} {e:PE} (h:swapOk fi x p e=true):fi.lookup x=some .local:=beq_iff_eq.mp (Bool.and_eq_true_iff.mp (Bool.and_eq_true_iff.mp h).1).1
include hC in
theorem assign_comp (gk:GOK2 G) {i:Nat} {e:ME} {fi:FI} {x:Str} {p pos:Pos} {v:PE} (h1:nmOk fi i x=true) (h2:chkE fi e v=true) (h4:isListComp v=true) (h5:swapOk fi x p v=true) {ρ:Env} {H:AH} {Q:PO}
    (w:wpS C (.assign i e) ρ H Q):WS G fi k (.Assign [.Name x p] v pos) ρ H Q:=by
  rcases v with ⟨⟩ <;> try exact absurd h4 Bool.false_ne_true
  rcases e with ⟨⟩ <;> try exact absurd h2 Bool.false_ne_true
  rename_i fr tg it ifs el
  refine as_e (P:=fun v=>swapOk fi x p v=true->WS G fi k (.Assign [.Name x p] v pos) ρ H Q) asLC_b h2 (fun t h=>?_) h5
  refine gen_e (P:=fun g=>swapOk fi x p (.ListComp t.1 g t.2.2.1 t.2.2.2)=true->WS G fi k (.Assign [.Name x p] (.ListComp t.1 g t.2.2.1 t.2.2.2) pos) ρ H Q) h fun tt ii c h h5=>?_
  have h:=Bool.and_eq_true_iff.mp h
  have a1:=Bool.and_eq_true_iff.mp h.1
  have a2:=Bool.and_eq_true_iff.mp a1.1
  have a3:=Bool.and_eq_true_iff.mp a2.1
  rcases tg with n | n
  · refine fun A env s r o R F=>?_
    obtain ⟨kd,k1,k2,uu⟩:=nmGet h1
    obtain rfl:=Option.some.inj ((lookup_of_get o.nodup k1).symm.trans (swap_loc h5))
    rw [exec_Assign_Name_used _ _ _ _ (swaps_yes o h5),evalThenUse_list]
    refine wpAny_bind (wpAny_standAt (wpAny_bind (wpAny_bind (wpAny_mono (comp_use (ps:=firstIterPos [⟨tt,ii,c,0⟩] t.2.2.2) a3.1 a3.2 (Tt:=fun ρ' H' K=>wpIfs C ifs ρ' H' K) (Te:=fun ρ' H' K=>wpE C el ρ' H' K) ((sL (hC G gk) gk ifs).ifs _ c a1.2) ((sX (hC G gk) gk el).e _ _ h.2)
      (Q:=fun v H'=>Q .next (setV ρ i v) H') k1 ((sX (hC G gk) gk it).e fi ii a2.2 ρ H _ w) r o R F) (fun uu s' z=>?_) fun uu uu z=>z))))
    obtain ⟨a,H',st1,R1,F1,q1⟩:=z
    exact wpAny_pure (wpAny_pure ⟨.next,_,H',st1,R1,F1,rfl,q1⟩)
  · exact absurd a3.1 Bool.false_ne_true
include hC in
theorem sS_assign (i:Nat) (e:ME):SS C k (.assign i e):=fun G gk fi st h ρ H Q w=>as_e (P:=fun st=>WS G fi k st ρ H Q) asS_b h fun u h=>
  one1_e (P:=fun l=>WS G fi k (.Assign l u.2.1 u.2.2) ρ H Q) h fun t h=>as_e (P:=fun t=>WS G fi k (.Assign [t] u.2.1 u.2.2) ρ H Q) asName_b h fun n h=>by
    have h:=Bool.and_eq_true_iff.mp h
    have h1:=Bool.and_eq_true_iff.mp h.1
    have h:=h.2
    rcases hc:isComp u.2.1 with uu | uu <;> rw [hc] at h
    · exact fun A env s r o R F=>wpAny_Assign_Name (PA.then ((sX (hC G gk) gk e).e fi _ h1.2 ρ H _ w A env s r o R F) fun v H₁ uw s₁ st1 R1 e1 q1=>
        wpAny_mono (store_stmt o R1 (F.step R st1) h1.1 e1 (Q:=fun ρ' H'=>Q .next ρ' H') q1) (fun uu s₂ z=>PS.next (Step.to st1) z) fun uu uu z=>z) (swaps_no hc)
    · have h:=Bool.and_eq_true_iff.mp (Bool.and_eq_true_iff.mp h).1
      exact assign_comp hC gk h1.1 h1.2 h.1 h.2 w
include hC in
theorem sS_setAttr (ob:ME) (n:String) (e:ME):SS C k (.setAttr ob n e):=fun G gk fi st h ρ H Q w=>as_e (P:=fun st=>WS G fi k st ρ H Q) asS_b h fun u h=>
  one1_e (P:=fun l=>WS G fi k (.Assign l u.2.1 u.2.2) ρ H Q) h fun t h=>as_e (P:=fun t=>WS G fi k (.Assign [t] u.2.1 u.2.2) ρ H Q) asAttr_b h fun a h=>by
    have h:=Bool.and_eq_true_iff.mp h
    have h1:=Bool.and_eq_true_iff.mp h.1
    have h2:=Bool.and_eq_true_iff.mp h1.1
    have h3:=Bool.and_eq_true_iff.mp h2.1
    refine eq_e (P:=fun m=>WS G fi k (.Assign [.Attribute a.1 m a.2.2] u.2.1 u.2.2) ρ H Q) (beq_iff_eq.mp h3.1) ?_
    exact fun A env s r o R F=>plainObj_wpAny_Assign_Attribute (PA.then ((sX (hC G gk) gk e).e fi _ h1.2 ρ H _ w A env s r o R F) fun v H₁ uw s₁ st1 R1 e1 q1=>PA.then ((sX (hC G gk) gk ob).e fi _ h2.2 ρ H₁ _ q1 A env s₁ r o R1 (F.step R st1)) fun ov H₂ ow s₂ st2 R2 e2 q2=>
      optH q2 fun H₃ hb q2=>PA.then (setAttr_sound gk.base R2 (List.contains_iff_mem.mp h3.2) e2 (e1.step R1 st2) hb (Q:=fun H'=>Q .next ρ H') q2) fun uu H₄ uu s₃ st3 R3 uu q3=>PS.done R F ((st1.trans st2).trans st3) R3 q3) (swaps_no (not_e h.2))
include hC in
theorem sS_setSub (ob ix e:ME):SS C k (.setSub ob ix e):=fun G gk fi st h ρ H Q w=>as_e (P:=fun st=>WS G fi k st ρ H Q) asS_b h fun u h=>
  one1_e (P:=fun l=>WS G fi k (.Assign l u.2.1 u.2.2) ρ H Q) h fun t h=>as_e (P:=fun t=>WS G fi k (.Assign [t] u.2.1 u.2.2) ρ H Q) asSub_b h fun a h=>by
    have h:=Bool.and_eq_true_iff.mp h
    have h1:=Bool.and_eq_true_iff.mp h.1
    have h2:=Bool.and_eq_true_iff.mp h1.1
    have h3:=Bool.and_eq_true_iff.mp h2.1
    exact fun A env s r o R F=>wpAny_Assign_Subscript (PA.then ((sX (hC G gk) gk e).e fi _ h1.2 ρ H _ w A env s r o R F) fun v H₁ uw s₁ st1 R1 e1 q1=>PA.then ((sX (hC G gk) gk ob).e fi _ h3.2 ρ H₁ _ q1 A env s₁ r o R1 (F.step R st1)) fun ov H₂ ow s₂ st2 R2 e2 q2=>
      PA.then ((sX (hC G gk) gk ix).e fi _ h2.2 ρ H₂ _ q2 A env s₂ r o R2 (F.step R (st1.trans st2))) fun iv H₃ iw s₃ st3 R3 e3 q3=>
      optH q3 fun H₄ hb q3=>PA.then (store_sound R3 (e2.step R2 st3) e3 (e1.step R1 (st2.trans st3)) hb (Q:=fun H'=>Q .next ρ H') q3) fun uu H₅ uu s₄ st4 R4 uu q4=>PS.done R F (((st1.trans st2).trans st3).trans st4) R4 q4) (swaps_no (not_e h.2))
theorem map_back {env:PySem.Env} (xs:List (Nat × Str)):((xs.map (·.2)).reverse.map fun n=>bindName env n)=xs.reverse.map fun p=>bindName env p.2:=by rw [<- List.map_reverse,List.map_map]; rfl
include hC in
theorem unpack_tuple (gk:GOK2 G) {ts:List MT} {e:ME} {fi:FI} {es vs:List PE} {n m:Nat} {p q pos:Pos} (h1:chkTs fi ts es=true) (h2:chkE fi e (.Tuple vs m q)=true) (h4:swap2Ok fi es (.Tuple vs m q)=true) {ρ:Env} {H:AH} {Q:PO}
    (w:wpS C (.unpack ts e) ρ H Q):WS G fi k (.Assign [.Tuple es n p] (.Tuple vs m q) pos) ρ H Q:=fun A env s r o R F=>by
  obtain ⟨xs,rfl,g2,g3,g4⟩:=swapped_yes (p:=p) (n:=n) o h1 h4
  rw [exec_Assign_arm]
  refine wpAny_bind (wpAny_standAt ?_)
  rw [swapsSole,swaps_no (v:=.Tuple vs m q) rfl]
  refine wpAny_bind (wpAny_pure ?_)
  rw [if_neg Bool.false_ne_true]
  refine wpAny_bind (PA.then ((sX (hC G gk) gk e).e fi _ h2 ρ H _ w A env s r o R F) fun u H₁ uw s₁ st1 R1 e1 q1=>?_)
  rw [g4]
  refine wpAny_bind (wpAny_pure ?_)
  rw [assignStores_some,map_back]
  have hlen:((xs.map (·.1)).map MT.var).length=(xs.map (·.2)).length:=by rw [List.length_map,List.length_map,List.length_map]
  refine optL q1 fun us hu q1=>wpAny_bind (wpAny_rule (wpAny_bind (unpack_items r.1 R1 e1 (hlen ▸ hu) fun ws s₂ st2 R2 e2 hw=>?_)))
  obtain ⟨hl,q1⟩:=wpTs_vars q1
  have st12:=st1.trans st2
  refine wpAny_bind (wpAny_mono (names_store o (stores_bind xs.reverse) (vs:=us.reverse) (ws:=ws.reverse) (fun p hp=>g3 p (List.mem_reverse.mp hp)) (by rw [List.length_reverse,List.length_reverse]; exact (List.length_map _).symm.trans hl) R2 (F.step R st12) e2.reverse (Q:=fun ρ' H'=>Q .next ρ' H') ?_) (fun uu s₃ z=>wpAny_pure (PS.next (Step.to st12) z)) fun uu uu z=>z)
  rw [List.map_reverse,setVs_reverse g2 hl]; exact q1
include hC in
theorem unpack_other (gk:GOK2 G) {ts:List MT} {e:ME} {fi:FI} {es:List PE} {n:Nat} {p pos:Pos} {v:PE} (h1:chkTs fi ts es=true) (h2:chkE fi e v=true) (h3:isComp v=false) (hv:asTup v=none) {ρ:Env} {H:AH} {Q:PO}
    (w:wpS C (.unpack ts e) ρ H Q):WS G fi k (.Assign [.Tuple es n p] v pos) ρ H Q:=fun A env s r o R F=>by
  refine wpAny_Assign_stores (PA.then ((sX (hC G gk) gk e).e fi _ h2 ρ H _ w A env s r o R F) fun u H₁ uw s₁ st1 R1 e1 q1=>?_) (swapsSole.trans (swaps_no h3)) (isTup_swapped hv)
  obtain ⟨g1,g2,g3⟩:=sTs (env:=env) (hC G gk) gk ts es h1
  show wpAny _ A (assign (.Tuple es n p) env uw) _ _ _
  rw [arm_assign_Tuple]
  refine wpAny_bind (wpAny_standAt ?_)
  unfold unpack
  rw [g1,g2]
  refine optL q1 fun us hu q1=>wpAny_bind (wpAny_holding (unpack_items r.1 R1 e1 hu fun ws s₂ st2 R2 e2 hw=>?_))
  have st12:=st1.trans st2
  exact wpAny_mono (g3 us ρ H₁ (fun ρ' H'=>Q .next ρ' H') q1 A ws s₂ r o R2 (F.step R st12) e2) (fun uu s₃ z=>PS.next (Step.to st12) z) fun uu uu z=>z
include hC in
theorem sS_unpack (ts:List MT) (e:ME):SS C k (.unpack ts e):=fun G gk fi st h ρ H Q w=>as_e (P:=fun st=>WS G fi k st ρ H Q) asS_b h fun u h=>
  one1_e (P:=fun l=>WS G fi k (.Assign l u.2.1 u.2.2) ρ H Q) h fun t h=>as_e (P:=fun t=>WS G fi k (.Assign [t] u.2.1 u.2.2) ρ H Q) asTup_b h fun a h=>by
    have h:=Bool.and_eq_true_iff.mp h
    have h1:=Bool.and_eq_true_iff.mp h.1
    have h2:=Bool.and_eq_true_iff.mp h1.1
    rcases hv:asTup u.2.1 with uu | b
    · exact unpack_other hC gk h2.1 h2.2 (not_e h1.2) hv w
    · have e:u.2.1 = .Tuple b.1 b.2.1 b.2.2:=by have:=asTup_b u.2.1; rw [hv] at this; exact this
      rw [e] at h2 h ⊢
      exact unpack_tuple hC gk h2.1 h2.2 h.2 w
include hC in
theorem sS_aug (i:Nat) (e:ME):SS C k (.aug i e):=fun G gk fi st h ρ H Q w=>as_e (P:=fun st=>WS G fi k st ρ H Q) asAug_b h fun u h=>by
    have h:=Bool.and_eq_true_iff.mp h
    refine eq_e (P:=fun op=>WS G fi k (.AugAssign u.1 op u.2.2.1 u.2.2.2) ρ H Q) (beq_iff_eq.mp h.1) (as_e (P:=fun t=>WS G fi k (.AugAssign t .Add u.2.2.1 u.2.2.2) ρ H Q) asName_b h.2 fun n h=>?_)
    have h:=Bool.and_eq_true_iff.mp h
    refine fun A env s r o R F=>optI w fun a ha w=>?_
    obtain ⟨kd,k1,k2,k3⟩:=nmGet h.1
    refine wpAny_AugAssign_Name (PA.then (loadVar (Q:=fun v H'=>v = .int a/\H'=H) o R F k1 (k2.elim .inl fun k2=>.inr (.inl k2)) ha ⟨rfl,rfl⟩) fun xv H₁ xw s₁ st1 R1 e1 q1=>?_)
    obtain ⟨rfl,rfl⟩:=q1
    refine PA.then ((sX (hC G gk) gk e).e fi _ h.2 ρ _ _ w A env s₁ r o R1 (F.step R st1)) fun yv H₂ yw s₂ st2 R2 e2 q2=>intV q2 fun b hb q2=>?_
    subst hb
    obtain ⟨t1,rfl⟩:=e1
    obtain ⟨t2,rfl⟩:=e2
    have st13:=(st1.trans st2).trans (StepX.tok (s₂.toks+1))
    exact wpAny_iadd_int (wpAny_mono (store_stmt o (R2.tok _) (F.step R st13) h.1 (v:=.int (a+b)) ⟨_,rfl⟩ (Q:=fun ρ' H'=>Q .next ρ' H') q2) (fun uu s₃ z=>PS.next (Step.to st13) z) fun uu uu z=>z)
include hC in
theorem sS_augSub (ob ix e:ME):SS C k (.augSub ob ix e):=fun G gk fi st h ρ H Q w=>as_e (P:=fun st=>WS G fi k st ρ H Q) asAug_b h fun u h=>by
    have h:=Bool.and_eq_true_iff.mp h
    refine eq_e (P:=fun op=>WS G fi k (.AugAssign u.1 op u.2.2.1 u.2.2.2) ρ H Q) (beq_iff_eq.mp h.1) (as_e (P:=fun t=>WS G fi k (.AugAssign t .Add u.2.2.1 u.2.2.2) ρ H Q) asSub_b h.2 fun a h=>?_)
    have h:=Bool.and_eq_true_iff.mp h
    have h1:=Bool.and_eq_true_iff.mp h.1
    have h2:=Bool.and_eq_true_iff.mp h1.1
    refine fun A env s r o R F=>wpAny_AugAssign_SubscriptAny (PA.then ((sX (hC G gk) gk ob).e fi _ h2.2 ρ H _ w A env s r o R F) fun ov H₁ ow s₁ st1 R1 e1 q1=>PA.then ((sX (hC G gk) gk ix).e fi _ h1.2 ρ H₁ _ q1 A env s₁ r o R1 (F.step R st1)) fun iv H₂ iw s₂ st2 R2 e2 q2=>optI q2 fun x hx q2=>?_) ?_
    · obtain ⟨T,id,uu,uu,g3⟩:=sub_sound (Q:=fun v H'=>v = .int x/\H'=H₂) R2 (e1.step R1 st2) e2 hx ⟨rfl,rfl⟩
      refine PA.then g3 fun uu uu aw s₃ st3 R3 e3 q3=>?_
      obtain ⟨rfl,rfl⟩:=q3
      have st13:=(st1.trans st2).trans st3
      refine PA.then ((sX (hC G gk) gk e).e fi _ h.2 ρ _ _ q2 A env s₃ r o R3 (F.step R st13)) fun bv H₄ bw s₄ st4 R4 e4 q4=>intV q4 fun b hb q4=>?_
      subst hb
      obtain ⟨t1,rfl⟩:=e3
      obtain ⟨t2,rfl⟩:=e4
      have st5:Step H₄ s₄ H₄ { s₄ with toks:=s₄.toks+1 }:=StepX.tok _
      have st35:=(st3.trans st4).trans st5
      exact wpAny_iadd_int (optH q4 fun H₅ hb q4=>PA.then (store_sound (R4.tok (s₄.toks+1)) (e1.step R1 (st2.trans st35)) (e2.step R2 st35) (z:=.int (x+b)) ⟨_,rfl⟩ hb (Q:=fun H'=>Q .next ρ H') q4) fun uu H₆ uu s₆ st6 R6 uu q6=>PS.done R F ((st13.trans st4).trans st5 |>.trans st6) R6 q6)
    · intro x y z
      rcases hy:a.2.1 with ⟨⟩ <;> first | rfl | (rw [hy] at h2; exact absurd h2.1 Bool.false_ne_true)
include hC in
theorem sS_expr (e:ME):SS C k (.expr e):=fun G gk fi st h ρ H Q w=>as_e (P:=fun st=>WS G fi k st ρ H Q) asExpr_b h fun u h=>by
    have h:=Bool.and_eq_true_iff.mp h
    refine fun A env s r o R F=>wpAny_Expr_any (PA.then ((sX (hC G gk) gk e).e fi _ h.1 ρ H _ w A env s r o R F) fun v H₁ uw s₁ st1 R1 e1 q1=>PS.done R F st1 R1 q1) ?_ (swaps_no (not_e h.2))
    unfold interactive; rw [o.kind]; rfl
include hC in
theorem sS_ret (e:ME):SS C k (.ret e):=fun G gk fi st h ρ H Q w=>as_e (P:=fun st=>WS G fi k st ρ H Q) asRet_b h fun u h=>by
    rcases u with ⟨uu | v,pos⟩
    · exact absurd h Bool.false_ne_true
    · exact fun A env s r o R F=>wpAny_Return_some (PA.then ((sX (hC G gk) gk e).e fi _ h ρ H _ w A env s r o R F) fun v H₁ uw s₁ st1 R1 e1 q1=>⟨.ret v,ρ,H₁,Step.to st1,R1,F.step R st1,⟨uw,rfl,e1⟩,q1⟩)
include hC in
theorem sS_ite (t:ME) {a b:List MS} (ha:SSs C k a) (hb:SSs C k b):SS C k (.ite t a b):=fun G gk fi st h ρ H Q w=>as_e (P:=fun st=>WS G fi k st ρ H Q) asIfS_b h fun u h=>by
    have h:=Bool.and_eq_true_iff.mp h
    have h1:=Bool.and_eq_true_iff.mp h.1
    refine fun A env s r o R F=>wpAny_If (PA.then ((sX (hC G gk) gk t).t fi _ h1.1 ρ H _ w A env s r o R F) fun c H₁ cw s₁ st1 R1 e1 q1=>?_)
    obtain rfl:=e1
    rcases c with uu | uu
    · exact PS.go (Step.to st1) (hb G gk fi _ h.2 ρ H₁ Q q1 A env s₁ r o R1 (F.step R st1))
    · exact PS.go (Step.to st1) (ha G gk fi _ h1.2 ρ H₁ Q q1 A env s₁ r o R1 (F.step R st1))
include hC in
theorem sS_while (t:ME) {b:List MS} (hb:SSs C k b):SS C k (.while_ t b):=fun G gk fi st h ρ H Q w=>as_e (P:=fun st=>WS G fi k st ρ H Q) asWhile_b h fun u h=>by
    have h:=Bool.and_eq_true_iff.mp h
    have h1:=Bool.and_eq_true_iff.mp h.1
    refine nil_e (P:=fun l=>WS G fi k (.While u.1 u.2.1 l u.2.2.2) ρ H Q) h1.2 ?_
    obtain ⟨n,w⟩:=w
    exact fun A env s r o R F=>wpAny_While (while_loop r o (Tt:=fun ρ' H' K=>wpT C t ρ' H' K) (Tb:=fun ρ' H' K=>wpSs C b ρ' H' K) ((sX (hC G gk) gk t).t fi _ h1.1) (hb G gk fi _ h.2) StepX.refl R F w)
theorem keys_ref {x:V} {H:AH} {all:List V} {P:V->Prop} (h:keysF x H=some all) (q:∀ a,P (.ref a)):P x:=by
  rcases x with ⟨⟩ <;> first | exact noS h | exact q _
include hC in
theorem sS_for (tg:Tgt) (it:ME) {b:List MS} (hb:SSs C k b):SS C k (.for_ tg it b):=fun G gk fi st h ρ H Q w=>as_e (P:=fun st=>WS G fi k st ρ H Q) asFor_b h fun u h=>by
    have h:=Bool.and_eq_true_iff.mp h
    have h1:=Bool.and_eq_true_iff.mp h.1
    have h2:=Bool.and_eq_true_iff.mp h1.1
    refine nil_e (P:=fun l=>WS G fi k (.For u.1 u.2.1 u.2.2.1 l u.2.2.2.2) ρ H Q) h1.2 fun A env s r o R F=>wpAny_For (PA.then ((sX (hC G gk) gk it).e fi _ h2.2 ρ H _ w A env s r o R F) fun xv H₁ xw s₁ st1 R1 e1 q1=>?_) (notSet_plain (chk_notSet h2.2) env)
    have F1:=F.step R st1
    have aL:∃ o,s₁.heap.get? env.locals=some o:=by obtain ⟨o,e,uu⟩:=F1.dictL; exact ⟨o,e⟩
    refine optN q1 (fun all hall q1=>?_) fun uu q1=>optL q1 fun all hall q1=>?_
    · obtain ⟨oS,hs⟩:=gk.base.sysm
      obtain ⟨z1,z2,z3,z4,z5⟩:=freeze_ok R1 F1 hall
      have hr:∃ a,xv = .ref a:=keys_ref (P:=fun x=>∃ a,x = .ref a) hall fun a=>⟨a,rfl⟩
      obtain ⟨a,rfl⟩:=hr
      obtain rfl:=e1
      refine keys_start (L:=env.locals) z1 hs z4 (z5 a rfl) aL z3.nL fun I s₂ fI st2 R2 K2=>?_
      refine codeAny_mono (for_loop (E:=F0) r o h2.1 (Tb:=fun ρ' H' K=>wpSs C b ρ' H' K) (hb G gk fi _ h.2) fI (Step.to st2) R2 (z3.step z1 st2) K2 q1) fun rr s' hr=>?_
      rcases rr with uu | f
      · exact hr
      · obtain ⟨oo,ρ',H',st3,R3,F3,fl,q3⟩:=hr
        obtain ⟨y1,y2,y3⟩:=thaw_ok o R1 F1 hall st3 R3 F3
        exact ⟨oo,ρ',_,(Step.to st1).trans y1,y2,y3,fl,q3⟩
    · refine iter_start (L:=env.locals) R1 e1 hall aL fun I s₂ fI st2 R2 K2=>?_
      refine codeAny_mono (for_loop (E:=F0) r o h2.1 (Tb:=fun ρ' H' K=>wpSs C b ρ' H' K) (hb G gk fi _ h.2) fI (Step.to st2) R2 (F1.step R1 st2) K2 q1) fun rr s' hr=>?_
      rcases rr with uu | f
      · exact hr
      · exact PS.lift (Step.to st1) hr
theorem many_e {P:Tgt->Prop} {tg:Tgt} (h:isMany tg=true) (k:∀ is,P (.many is)):P tg:=by
  rcases tg with uu | is
  · exact absurd h Bool.false_ne_true
  · exact k is
theorem reps3 {X:Addr->Prop} {h:Heap} {a b c:Nat} {ws:List Value} {P:List Value->Prop} (e:RepVs X h [.ref a,.ref b,.ref c] ws) (k:P [.ref a,.ref b,.ref c]):P ws:=by
  obtain ⟨uu,uu,rfl,rfl,uu,uu,rfl,rfl,uu,uu,rfl,rfl,rfl⟩:=e
  exact k
theorem Rep.isList {H:AH} {s:Shared} (R:Rep G H s) {l:Addr} {vs:List V} (h:H l=some (.list vs)):∃ items,s.heap.IsList l items:=by
  obtain ⟨items,n,e,uu⟩:=R.list h; exact ⟨items,_,e,rfl,n,rfl⟩
include hC in
theorem sS_forZip (tg:Tgt) (es:List ME) {b:List MS} (hb:SSs C k b):SS C k (.forZip tg es b):=fun G gk fi st h ρ H Q w=>as_e (P:=fun st=>WS G fi k st ρ H Q) asFor_b h fun u h=>by
    have h:=Bool.and_eq_true_iff.mp h
    have h1:=Bool.and_eq_true_iff.mp h.1
    have h2:=Bool.and_eq_true_iff.mp h1.1
    have h3:=Bool.and_eq_true_iff.mp h2.1
    refine nil_e (P:=fun l=>WS G fi k (.For u.1 u.2.1 u.2.2.1 l u.2.2.2.2) ρ H Q) h2.2 (as_e (P:=fun i=>WS G fi k (.For u.1 i u.2.2.1 [] u.2.2.2.2) ρ H Q) asCall_b h.2 fun c g=>?_)
    have g:=Bool.and_eq_true_iff.mp g
    have g1:=Bool.and_eq_true_iff.mp g.1
    refine nil_e (P:=fun kw=>WS G fi k (.For u.1 (.Call c.1 c.2.1 kw c.2.2.2) u.2.2.1 [] u.2.2.2.2) ρ H Q) g1.1 (as_e (P:=fun fe=>WS G fi k (.For u.1 (.Call fe c.2.1 [] c.2.2.2) u.2.2.1 [] u.2.2.2.2) ρ H Q) asName_b g1.2 fun z g2=>?_)
    have g2:=Bool.and_eq_true_iff.mp g2
    have hz:z.1=Str.ofString "zip" := beq_iff_eq.mp g2.1
    rw [hz] at g2 ⊢
    rcases tg with uu | is
    · exact absurd h3.2 Bool.false_ne_true
    refine fun A env s r o R F=>wpAny_For (wpAny_Call_ofName (loadB gk o R g2.2 gk.zip.1 gk.zip.2 ?_))
    refine callWith_machine rfl (plainArgs g.2) (PA.then ((sL (hC G gk) gk es).es fi _ g.2 ρ H _ w A env s _ r o R F) fun xs H₁ ws s₁ st1 R1 e1 q1=>?_)
    refine optZ q1.2 fun pz hz q3=>?_
    obtain ⟨a1,a2,a3,hx,hall,hp⟩:=zipF_e hz
    subst hx
    rw [hp] at q3
    refine reps3 (P:=fun ws=>wpAny _ _ (call _ ws) _ _ _) e1 ?_
    obtain ⟨xs,y1,hh⟩:=bind_e hall
    obtain ⟨ys,y2,hh⟩:=bind_e hh
    obtain ⟨vs,y3,hh⟩:=bind_e hh
    obtain ⟨uu,b1⟩:=R1.isList (listAt_e y1)
    obtain ⟨uu,b2⟩:=R1.isList (listAt_e y2)
    obtain ⟨uu,b3⟩:=R1.isList (listAt_e y3)
    refine call_zip3 b1 b2 b3 fun h' z TI TO ps N=>?_
    have fO:=N.fr TO (.inr .o)
    have R2:Rep (GX G TO) H₁ { s₁ with heap:=h' }:=R1.addX fO N.k (N.at_.al TO .o)
    have F2:FrR (GX G TO) fi env H₁ ρ { s₁ with heap:=h' }:=(F.step R st1).addX fO N.k
    refine wpAny_pyIter_zip N.at_.hz (codeAny_mono (zip_loop (G:=G) (E:=F0) r o h3.1 (Tb:=fun ρ' H' K=>wpSs C b ρ' H' K) (hb _ gk.addX fi _ h1.2) N.lst (s₀:=s₁) ⟨N.ap,N.nI,fun a ha=>R1.freshG (N.fr a ha),N.fr,fun a ha=>R1.freshX (N.fr a ha)⟩ (StepX.grow s₁.toks N.k) R2 F2 ⟨N.at_,fun a ha=>R1.fresh (N.fr a ha)⟩ q3) fun rr s' hr=>?_)
    rcases rr with uu | f
    · exact hr
    · exact PS.lift (Step.to st1) hr
theorem sSs_nil:SSs C k []:=fun G gk fi ss h ρ H Q w=>nil_e (P:=fun ss=>WSs G fi k ss ρ H Q) h fun A env s r o R F=>wpAny_execs_nil ⟨.next,ρ,H,StepX.refl,R,F,rfl,w⟩
theorem sSs_cons {m:MS} {ms:List MS} (h1:SS C k m) (h2:SSs C k ms):SSs C k (m::ms):=fun G gk fi ss h ρ H Q w=>by
  rcases ss with uu | ⟨st,ss⟩
  · exact absurd h Bool.false_ne_true
  have h:=Bool.and_eq_true_iff.mp h
  refine fun A env s r o R F=>wpAny_execs_cons (wpAny_mono (h1 G gk fi st h.1 ρ H _ w A env s r o R F) (fun f s₁ z=>?_) fun uu uu z=>z)
  obtain ⟨oo,ρ₁,H₁,st1,R1,F1,fl,q1⟩:=z
  rcases oo with uu | v
  · obtain rfl:=fl
    exact PS.go st1 (h2 G gk fi ss h.2 ρ₁ H₁ Q q1 A env s₁ r o R1 F1)
  · obtain ⟨wv,rfl,e⟩:=fl
    exact ⟨.ret v,ρ₁,H₁,st1,R1,F1,⟨wv,rfl,e⟩,q1⟩
include hC in
theorem sS (m:MS):SS C k m :=
  MS.rec (motive_1:=SS C k) (motive_2:=SSs C k) (sS_assign hC) (sS_setAttr hC) (sS_setSub hC) (sS_unpack hC) (sS_aug hC) (sS_augSub hC) (sS_expr hC) (sS_ret hC) (fun t uu uu=>sS_ite hC t) (fun t uu=>sS_while hC t) (fun tg it uu=>sS_for hC tg it) (fun tg es uu=>sS_forZip hC tg es) sSs_nil (fun uu uu=>sSs_cons) m
include hC in
theorem sSs:∀ ms:List MS,SSs C k ms
  | []=>sSs_nil
  | m::ms=>sSs_cons (sS hC m) (sSs ms)
end
end Mine
end
section
open PySem PySem.W PyProof.Rows PySem.SeqAt PySem.Calls
set_option maxRecDepth 100000
set_option maxHeartbeats 4000000
namespace Mine
variable {G:GC}
theorem fm_congr {α β:Type} {f g:α->Option β}:∀ {l:List α},(∀ x ∈ l,f x=g x)->l.filterMap f=l.filterMap g
  | [],_=>rfl
  | x::l,h=>by
    rw [List.filterMap_cons,List.filterMap_cons,h x (by simp),fm_congr fun y hy=>h y (List.mem_cons_of_mem _ hy)]
theorem lookup_zip_none:∀ {ns:List Str} {vs:List Value} {n:Str},n ∉ ns->(ns.zip vs).lookup n=none
  | [],_,_,_=>by simp
  | m::ns,[],_,_=>by simp
  | m::ns,v::vs,n,h=>by
    simp only [List.mem_cons,not_or] at h
    rw [List.zip_cons_cons,List.lookup_cons,beq_eq_false_iff_ne.mpr h.1]
    exact lookup_zip_none h.2
theorem lookup_zip:∀ {ns:List Str} {vs:List Value},ns.Nodup->ns.length=vs.length->ns.filterMap (fun n=>((ns.zip vs).lookup n).map (n,·))=ns.zip vs
  | [],_,_,_=>by simp
  | n::ns,[],_,h=>by simp at h
  | n::ns,v::vs,hn,hl=>by
    rw [List.nodup_cons] at hn
    rw [List.filterMap_cons]
    have e0:((n::ns).zip (v::vs)).lookup n=some v:=by rw [List.zip_cons_cons,List.lookup_cons]; simp
    rw [e0]
    simp only [Option.map_some]
    rw [List.zip_cons_cons]
    congr 1
    rw [<- lookup_zip hn.2 (by simpa using hl)]
    refine fm_congr fun m hm=>?_
    have:(m == n)=false:=beq_eq_false_iff_ne.mpr fun e=>hn.1 (e ▸ hm)
    rw [lookup_zip hn.2 (by simpa using hl),List.lookup_cons,this]
theorem lookup_zip_some:∀ {ns:List Str} {vs:List Value},ns.length=vs.length->∀ n ∈ ns,((ns.zip vs).lookup n).isSome=true
  | [],_,_,n,h=>by simp at h
  | m::ns,[],h,_,_=>by simp at h
  | m::ns,v::vs,hl,n,h=>by
    rw [List.zip_cons_cons,List.lookup_cons]
    cases hm:n == m with
    | true=>rfl
    | false=>
      rcases List.mem_cons.mp h with rfl | h
      · simp at hm
      · exact lookup_zip_some (by simpa using hl) n h
theorem ite_skip {c:Prop} [Decidable c] {α:Type} {a b r:α} (h:¬c) (k:b=r):ite c a b=r:=(if_neg h).trans k
theorem for_skip {α β γ:Type} {l:List α} {i:β} {f:α->β->Sem (ForInStep β)} {k:β->Sem γ} {r:Sem γ} (e:l=[]) (h:k i=r):(forIn l i f >>= k)=r:=by
  subst e
  exact h
theorem missing_none {ns:List Str} {vs:List Value} (hl:ns.length=vs.length) {k:Nat}:(ns.take k).filter (fun n=>((ns.zip vs).lookup n).isNone)=[] :=
  List.filter_eq_nil_iff.mpr fun n hn=>by
    have:=lookup_zip_some hl n (List.mem_of_mem_take hn)
    rcases h:(ns.zip vs).lookup n with uu | uu
    · rw [h] at this; exact nomatch this
    · exact nofun
theorem bind_plain {fd:FuncData} {vals:List Value} (h1:fd.params.posonlyargs=[]) (h2:fd.params.vararg=none) (h3:fd.params.kwonlyargs=[]) (h4:fd.params.kwarg=none) (h5:fd.defaults = .none)
    (hn:(fd.params.args.map (·.arg)).Nodup) (hl:(fd.params.args.map (·.arg)).length=vals.length):bindArgs fd ⟨vals,[]⟩=pure ((fd.params.args.map (·.arg)).zip vals):=by
  obtain ⟨nm,qn,⟨po,ar,va,ko,kd,kw,df⟩,bd,sc,gl,cl,de,kwd,doc,pm,an,co,ct,bi⟩:=fd
  obtain rfl:po=[]:=h1
  obtain rfl:va=none:=h2
  obtain rfl:ko=[]:=h3
  obtain rfl:kw=none:=h4
  obtain rfl:de = .none:=h5
  refine ite_skip (fun h=>?_) (ite_skip (fun h=>?_) ?_)
  · exact absurd (of_decide_eq_true (Bool.and_eq_true_iff.mp h).1) (hl ▸ Nat.lt_irrefl _)
  · exact Bool.noConfusion (h.symm.trans (congrArg (fun l=>!List.isEmpty l) (missing_none hl)))
  · refine for_skip ((congrArg (List.zip _) List.drop_nil).trans List.zip_nil_right) ?_
    refine congrArg (pure (f:=Sem)) (Eq.trans (b:=List.filterMap (fun n=>((List.zip (List.map (·.arg) ar) vals).lookup n).map (n,·)) (List.map (·.arg) ar)) ?_ (lookup_zip hn hl))
    exact congrArg _ (List.append_nil _)
end Mine
end
section
open PySem PySem.W PyProof.Rows PySem.SeqAt PySem.Calls
set_option maxRecDepth 100000
set_option maxHeartbeats 4000000
namespace Mine
variable {G:GC}
theorem bindL_get {kindOf:Str->Option NameKind}:∀ {binds:List (Str × Value)} {m:Str->Option Value} {x:Str} {v:Value},(binds.map (·.1)).Nodup->binds.lookup x=some v->kindOf x=some .local->bindL kindOf binds m x=some v
  | [],_,_,_,_,h,_=>by simp at h
  | (n,u)::r,m,x,v,hn,h,hk=>by
    simp only [List.map_cons,List.nodup_cons] at hn
    unfold bindL
    rw [List.lookup_cons] at h
    cases hx:x == n with
    | false=>rw [hx] at h; exact bindL_get hn.2 h hk
    | true=>
      rw [hx] at h; cases h
      obtain rfl:=beq_iff_eq.mp hx
      rw [if_pos hk]
      have:∀ (r:List (Str × Value)) (m:Str->Option Value),x ∉ r.map (·.1)->bindL kindOf r m x=m x:=by
        intro r
        induction r with
        | nil=>intro m uu; rfl
        | cons p r ih=>
          intro m hm
          obtain ⟨a,b⟩:=p
          simp only [List.map_cons,List.mem_cons,not_or] at hm
          unfold bindL
          rw [ih _ hm.2]
          split
          · simp [hm.1]
          · rfl
      rw [this r _ hn.1]
      simp
theorem bindC_get {kindOf:Str->Option NameKind}:∀ {binds:List (Str × Value)} {m:Str->Option Value} {x:Str} {v:Value},(binds.map (·.1)).Nodup->binds.lookup x=some v->kindOf x ≠ some .local->bindC kindOf binds m x=some v
  | [],_,_,_,_,h,_=>by simp at h
  | (n,u)::r,m,x,v,hn,h,hk=>by
    simp only [List.map_cons,List.nodup_cons] at hn
    unfold bindC
    rw [List.lookup_cons] at h
    cases hx:x == n with
    | false=>rw [hx] at h; exact bindC_get hn.2 h hk
    | true=>
      rw [hx] at h; cases h
      obtain rfl:=beq_iff_eq.mp hx
      rw [if_neg hk]
      have:∀ (r:List (Str × Value)) (m:Str->Option Value),x ∉ r.map (·.1)->bindC kindOf r m x=m x:=by
        intro r
        induction r with
        | nil=>intro m uu; rfl
        | cons p r ih=>
          intro m hm
          obtain ⟨a,b⟩:=p
          simp only [List.map_cons,List.mem_cons,not_or] at hm
          unfold bindC
          rw [ih _ hm.2]
          split
          · rfl
          · simp [hm.1]
      rw [this r _ hn.1]
      simp
theorem cellsFrom_some:∀ (names:FI) (n:Nat) (acc:List (Str × Addr)) (x:Str),((x,NameKind.cell) ∈ names \/ (acc.lookup x).isSome=true)->((cellsFrom n names acc).lookup x).isSome=true
  | [],n,acc,x,h=>by
    rcases h with h | h
    · simp at h
    · exact h
  | (m,k)::r,n,acc,x,h=>by
    unfold cellsFrom
    split
    · refine cellsFrom_some r _ _ x ?_
      rcases h with h | h
      · rcases List.mem_cons.mp h with h | h
        · cases h; right; simp [List.lookup]
        · exact .inl h
      · right
        simp only [List.lookup]
        cases hn:x == m with
        | true=>rfl
        | false=>exact h
    · rename_i hk
      refine cellsFrom_some r _ _ x ?_
      rcases h with h | h
      · rcases List.mem_cons.mp h with h | h
        · cases h; simp at hk
        · exact .inl h
      · exact .inr h
theorem firstN_take:∀ (n:Nat) (fi:FI),firstN n fi=(fi.map (·.1)).take n
  | 0,fi=>by simp [firstN]
  | n+1,[]=>by simp [firstN]
  | n+1,(x,k)::r=>by simp [firstN,firstN_take n r]
theorem getV_eq:∀ (ρ:Env) (i:Nat),getV ρ i=(ρ[i]?).join
  | [],i=>by simp [getV]
  | x::r,0=>by simp [getV]
  | x::r,i+1=>by
    show getV r i=_
    rw [getV_eq r i]; simp
theorem init_get {fn:Fn} {vs:List V} {i:Nat} {v:V} (h:getV (initEnv fn vs) i=some v):vs[i]? = some v:=by
  rw [getV_eq,initEnv] at h
  rcases Nat.lt_or_ge i vs.length with hi | hi
  · rw [List.getElem?_append_left (by simpa using hi),List.getElem?_map] at h
    rw [List.getElem?_eq_getElem hi] at h ⊢
    simpa using h
  · rw [List.getElem?_append_right (by simpa using hi),List.getElem?_replicate] at h
    split at h <;> simp at h
theorem zip_lookup_get:∀ {ns:List Str} {ws:List Value} {i:Nat} {x:Str} {w:Value},ns.Nodup->ns[i]? = some x->ws[i]? = some w->(ns.zip ws).lookup x=some w
  | [],_,_,_,_,_,h,_=>by simp at h
  | n::ns,[],_,_,_,_,_,h=>by simp at h
  | n::ns,u::ws,0,x,w,hn,h1,h2=>by
    simp only [List.getElem?_cons_zero,Option.some.injEq] at h1 h2
    subst h1; subst h2
    rw [List.zip_cons_cons,List.lookup_cons]; simp
  | n::ns,u::ws,i+1,x,w,hn,h1,h2=>by
    rw [List.nodup_cons] at hn
    simp only [List.getElem?_cons_succ] at h1 h2
    have:(x == n)=false:=beq_eq_false_iff_ne.mpr fun e=>hn.1 (e ▸ List.mem_of_getElem? h1)
    rw [List.zip_cons_cons,List.lookup_cons,this]
    exact zip_lookup_get hn.2 h1 h2
theorem fns_mem {f:String} {fn:Fn} (h:fns f=some fn):(f,fn) ∈ fnsL:=by
  unfold fns at h
  have:∀ (l:List (String × Fn)),l.lookup f=some fn->(f,fn) ∈ l:=by
    intro l
    induction l with
    | nil=>intro h; simp at h
    | cons p r ih=>
      intro h
      obtain ⟨g,gn⟩:=p
      rw [List.lookup_cons] at h
      cases hb:f == g with
      | true=>rw [hb] at h; cases h; rw [beq_iff_eq.mp hb]; exact List.mem_cons_self
      | false=>rw [hb] at h; exact List.mem_cons_of_mem _ (ih h)
  exact this _ h
theorem FnVal.uniq (gk:GOK2 G) {f:String} {a a':Addr} (h:FnVal G f a) (h':FnVal G f a'):a=a':=by
  rcases h with ⟨n,h⟩ | ⟨n,h⟩ <;> rcases h' with ⟨n',h'⟩ | ⟨n',h'⟩
  · rw [h] at h'; cases h'; rfl
  · exact absurd n' n
  · exact absurd n n'
  · exact gk.initU a a' (.inr ⟨rfl,h⟩) (.inr ⟨rfl,h'⟩)
theorem call_sound:∀ (n:Nat) (G:GC),GOK2 G->∀ f vs H Q,callN fns n f vs H Q->CallSem G n f vs H Q
  | 0,G,gk,f,vs,H,Q,h=>h.elim
  | n+1,G,gk,f,vs,H,Q,h=>by
    simp only [callN] at h
    split at h
    · exact h.elim
    · rename_i fn hfn
      obtain ⟨hlen,w⟩:=h
      intro a A s ws fa rc R rv
      obtain ⟨a',b1,⟨o,fd,body,b2,b3,b4,b5,b6,b7,b8,b9,b10,b11⟩⟩:=gk.fns _ (fns_mem hfn)
      obtain rfl:=FnVal.uniq gk fa b1
      simp only [chkF,Bool.and_eq_true,decide_eq_true_eq,beq_iff_eq,Bool.not_eq_true',List.isEmpty_iff,Option.isNone_iff_eq_none] at b6
      obtain ⟨⟨⟨⟨⟨⟨⟨⟨⟨⟨⟨⟨⟨⟨⟨⟨c1,c2⟩,c3⟩,c4⟩,c5⟩,c6⟩,c7⟩,c8⟩,c9⟩,c10⟩,c11⟩,c12⟩,c13⟩,c14⟩,c15⟩,c16⟩,c17⟩:=b6
      have nd:(fd.scope.names.map (·.1)).Nodup:=by simpa [nodupB] using c2
      have hnames:(fd.params.args.map (·.arg)).Nodup:=by
        rw [c7,firstN_take]; exact nd.sublist (List.take_sublist _ _)
      have hwl:ws.length=vs.length:=rv.length
      have hl:(fd.params.args.map (·.arg)).length=ws.length:=by rw [List.length_map,c6,hwl,hlen]
      refine wpAny_runValue ?_
      refine codeAny_call_function (A:=A) rc.depth (R.ground _ _ b2) b4 c5 c4 b5 (b7.keeps R.ground) ?_
      rw [bind_plain c12 c13 c14 c16 b11 hnames hl,b9]
      have keyname:∀ (i:Nat) (x:Str) (k:NameKind),fd.scope.names[i]? = some (x,k)->i<fn.params->(fd.params.args.map (·.arg))[i]? = some x:=by
        intro i x k hi hlt
        rw [c7,firstN_take,List.getElem?_take_of_lt hlt,List.getElem?_map,hi]; rfl
      have kindLC:∀ (i:Nat) (x:Str) (k:NameKind),fd.scope.names[i]? = some (x,k)->i<fn.nloc->k = .local \/ k = .cell:=by
        intro i x k hi hlt
        rw [List.all_eq_true] at c10
        have:=c10 (x,k) (List.mem_of_getElem? (i:=i) (by rw [List.getElem?_take_of_lt hlt]; exact hi))
        simpa using this
      have kindG:∀ (i:Nat) (x:Str) (k:NameKind),fd.scope.names[i]? = some (x,k)->¬ i<fn.nloc->k = .globalImplicit:=by
        intro i x k hi hlt
        rw [List.all_eq_true] at c11
        have:=c11 (x,k) (List.mem_of_getElem? (i:=i - fn.nloc) (by rw [List.getElem?_drop]; rw [show fn.nloc+(i - fn.nloc)=i by omega]; exact hi))
        simpa using this
      have hzl:((fd.params.args.map (·.arg)).zip ws).map (·.1)=fd.params.args.map (·.arg):=List.map_fst_zip (by omega)
      refine wpAny_pure (wpAny_newFunctionEnv_cells c3 ?_ fun env he s' ic=>?_)
      · intro p hp
        have hm:p.1 ∈ fd.params.args.map (·.arg):=by rw [<- hzl]; exact List.mem_map.mpr ⟨p,hp,rfl⟩
        obtain ⟨i,hi,e⟩:=List.mem_iff_getElem.mp hm
        have hip:i<fn.params:=by rw [List.length_map,c6] at hi; exact hi
        have hil:i<fd.scope.names.length:=by omega
        have hx:fd.scope.names[i]? = some (fd.scope.names[i].1,fd.scope.names[i].2):=List.getElem?_eq_getElem hil
        have hx1:=keyname i _ _ hx hip
        rw [List.getElem?_eq_getElem hi,e] at hx1
        have hx1:p.1=fd.scope.names[i].1:=Option.some.inj hx1
        rw [hx1]
        rcases kindLC i _ _ hx (by omega) with hk | hk
        · left; rw [hk] at hx; exact lookup_of_get nd hx
        · right
          rw [hk] at hx
          refine ⟨lookup_of_get nd hx,cellsFrom_some _ _ _ _ (.inl (List.mem_of_getElem? hx))⟩
      · have hkind:env.scope.kind = .function:=by rw [he]; exact c3
        have hnm:env.scope.names=fd.scope.names:=by rw [he]; rfl
        have oe:EnvOK fd.scope.names env:=⟨hkind,hnm,by rw [he]; exact b8,by rw [he]; exact b10,nd⟩
        obtain ⟨h',tk,rfl⟩:=ic.toInCall.same
        have keep:=ic.toInCall.keep
        have st1:Step H s H { s with heap:=h',toks:=tk }:=StepX.grow tk keep
        have R1:Rep G H { s with heap:=h',toks:=tk }:=R.grow tk keep
        have fL:s.heap.get? env.locals=none:=Heap.get?_none_of_le ic.toInCall.fresh
        have cellsAbove:∀ n c,env.cells.lookup n=some c->s.heap.get? c=none:=fun n c hc=>Heap.get?_none_of_le (Nat.le_trans ic.toInCall.fresh (Nat.le_of_lt (ic.above n c (mem_of_lookup hc))))
        have rv1:=rv.step R st1
        have hko:∀ i x k,fd.scope.names[i]? = some (x,k)->env.kindOf x=some k:=fun i x k hi=>by
          show env.scope.names.lookup x=_; rw [hnm]; exact lookup_of_get nd hi
        have F1:FrR G fd.scope.names env H (initEnv fn vs) { s with heap:=h',toks:=tk }:=by
          refine ⟨R.fresh fL,R.freshG fL,⟨_,ic.toInCall.ns,fun i x v h1 h2=>?_⟩,fun i x k h1 h2=>?_,fun x y c h1 h2=>name_of_addr ic.apart (mem_of_lookup h1) (mem_of_lookup h2)⟩
          · have hv:=init_get h2
            obtain ⟨u,hu,eu⟩:=rv1.get hv
            have hip:i<fn.params:=by rw [<- hlen]; exact (List.getElem?_eq_some_iff.mp hv).1
            exact ⟨u,bindL_get (by rw [hzl]; exact hnames) (zip_lookup_get hnames (keyname i x _ h1 hip) hu) (hko i x _ h1),eu⟩
          · have hlt:i<fn.nloc:=by
              rcases Nat.lt_or_ge i fn.nloc with hh | hh
              · exact hh
              · have:=kindG i x k h1 (by omega)
                rw [this] at h2; rcases h2 with h2 | h2 <;> cases h2
            have hk:k = .cell:=by
              rcases kindLC i x k h1 hlt with hh | hh
              · rw [hh] at h2; rcases h2 with h2 | h2 <;> cases h2
              · exact hh
            subst hk
            have hs:(env.cells.lookup x).isSome=true:=by
              rw [he]; exact cellsFrom_some _ _ _ _ (.inl (List.mem_of_getElem? h1))
            obtain ⟨c,hc⟩:=Option.isSome_iff_exists.mp hs
            refine ⟨c,_,hc,⟨R.fresh (cellsAbove x c hc),fun uu=>R.freshG (cellsAbove x c hc)⟩,ic.cell x c hc,fun v hv=>?_⟩
            have hv:=init_get hv
            obtain ⟨u,hu,eu⟩:=rv1.get hv
            have hip:i<fn.params:=by rw [<- hlen]; exact (List.getElem?_eq_some_iff.mp hv).1
            exact ⟨u,bindC_get (by rw [hzl]; exact hnames) (zip_lookup_get hnames (keyname i x _ h1 hip) hu) (by rw [hko i x _ h1]; simp),eu⟩
        refine ⟨gk.base.nolimit.keeps fun b o e=>keep _ _ (R.ground _ _ e),codeAny_func ?_⟩
        refine wpAny_mono (sSs (C:=callN fns n) (fun G gk f vs H Q=>call_sound n G gk f vs H Q) fn.body G gk fd.scope.names body c1 (initEnv fn vs) H _ w (A.deeper env) env _ (rc.deeper env) oe R1 F1) (fun fl s₂ z=>?_) fun uu uu z=>z.elim
        obtain ⟨oo,ρ',H',st2,R2,F2,flr,q⟩:=z
        have own:∀ b,ownX fd.scope.names env b->s.heap.get? b=none:=fun b hb=>by
          rcases hb with rfl | ⟨x,uu,h2⟩
          · exact fL
          · exact cellsAbove x b h2
        have st:Step H s H' s₂:=(((Step.to (X:=ownX fd.scope.names env) st1).trans st2)).fresh own
        cases oo with
        | next=>
          obtain rfl:=flr
          exact ⟨.none,H',st,R2,rfl,q⟩
        | ret v=>
          obtain ⟨u,rfl,e⟩:=flr
          exact ⟨v,H',st,R2,e,q⟩
end Mine
end
section
open PySem PySem.W PyProof.Rows PySem.SeqAt PySem.Calls
set_option maxRecDepth 100000
set_option maxHeartbeats 4000000
namespace Mine
noncomputable def hide (h:Heap) (a:Addr):Heap:=h.update a fun o=>{ o with data:=.freed }
theorem hide_none {h:Heap} {a:Addr}:(hide h a).get? a=none:=by
  cases e:(hide h a).get? a with
  | none=>rfl
  | some o=>
    exfalso
    obtain ⟨h1,h2⟩:=Heap.get?_some_iff.mp e
    unfold hide at h1
    cases h with
    | mk objs=>
      simp only [Heap.update] at h1
      have:o.data = .freed:=by
        rw [Array.getElem?_modify] at h1
        simp at h1
        obtain ⟨x,uu,hx⟩:=h1
        rw [<- hx]
      obtain ⟨c,d,dt,sl⟩:=o
      subst this
      cases h2
theorem hide_sub {h:Heap} {a b:Addr} {o:Obj} (e:(hide h a).get? b=some o):h.get? b=some o:=by
  have hb:b ≠ a:=fun hb=>by rw [hb,hide_none] at e; cases e
  exact (Heap.get?_update_other _ _ (Ne.symm hb)).symm.trans e
theorem hide_keep {h:Heap} {a b:Addr} {o oa:Obj} (e:h.get? b=some o) (ha:h.get? a=some oa) (hs:∃ items n,oa.data = .seq items n) (hn:∀ items n,o.data ≠ .seq items n):(hide h a).get? b=some o:=by
  have hb:b ≠ a:=fun hb=>by
    rw [hb,ha] at e; cases e
    obtain ⟨i,n,q⟩:=hs; exact hn _ _ q
  exact (Heap.get?_update_other _ _ (Ne.symm hb)).trans e
theorem ns_hide {h:Heap} {A ns:Addr} {m:Str->Option Value} {oa:Obj} (ha:h.get? A=some oa) (hs:∃ items n,oa.data = .seq items n) (n:h.Ns ns m):(hide h A).Ns ns m:=by
  obtain ⟨o,es,ep,e,d,r⟩:=n
  exact ⟨o,es,ep,hide_keep e ha hs (fun i n q=>by rw [d] at q; cases q),d,r⟩
theorem clsAt_ns {h:Heap} {C N:Addr} {m:Str->Option Value} (x:ClsAt h C N m):(h.get? C).bind (fun o=>(vCls o.data).map (·.ns))=some N:=by
  obtain ⟨nm,q,bs,sn,sub,col,dd,k0,k1,k2,k3,k5,e⟩:=x.obj
  exact congrArg (·.bind (fun o=>(vCls o.data).map (·.ns))) e
theorem ns_uniq {h:Heap} {N:Addr} {m m':Str->Option Value} (x:h.Ns N m) (y:h.Ns N m') (n:Str):m n=m' n:=by
  obtain ⟨o,es,ep,f1,f2,uu,f3⟩:=x
  obtain ⟨o',es',ep',g1,g2,uu,g3⟩:=y
  obtain rfl:=Option.some.inj (f1.symm.trans g1)
  have e:(vDict o.data).map (·.1)=some es:=congrArg (fun d=>(vDict d).map (·.1)) f2
  have e':(vDict o.data).map (·.1)=some es':=congrArg (fun d=>(vDict d).map (·.1)) g2
  obtain rfl:=Option.some.inj (e.symm.trans e')
  exact (f3 n).symm.trans (g3 n)
theorem clsAt_uniq {h:Heap} {C N N':Addr} {m m':Str->Option Value} (x:ClsAt h C N m) (y:ClsAt h C N' m') (n:Str):m n=m' n:=by
  obtain rfl:=Option.some.inj ((clsAt_ns x).symm.trans (clsAt_ns y))
  exact ns_uniq x.ns y.ns n
noncomputable def Sub (h h':Heap):Prop:=∀ b o,h.get? b=some o->h'.get? b=some o
noncomputable def chkG (fn:Fn) (t:FnS):Bool:=chkF fn t.1 t.2.1 t.2.2.1 && t.2.2.2
theorem frag1 {h:Heap} {c:Addr} {o:Obj} (g:h.get? c=some o):Frag.In [(c,o)] h:=fun a o' e=>by
  rcases hb:a == c with uu | uu <;> rw [List.lookup_cons,hb] at e
  · exact nomatch e
  · rw [beq_iff_eq.mp hb,g]; exact e
section
variable {h0 h:Heap} {A a ns:Addr} {fn:Fn} {o oa:Obj} {t:FnS} {m:Str->Option Value} {x:String}
theorem fnOb_e (X:Sub h0 h) (ha:h.get? A=some oa) (hs:∃ items n,oa.data = .seq items n) (e:obS h0 o=some t) (c:chkG fn t=true) (g:h.get? a=some o):FnR (hide h A) fn a:=by
  obtain ⟨ty,e1,e⟩:=Option.bind_eq_some_iff.mp e
  obtain ⟨fd,e2,e⟩:=Option.bind_eq_some_iff.mp e
  obtain ⟨b,e3,e⟩:=Option.bind_eq_some_iff.mp e
  obtain ⟨ca,e4,e⟩:=Option.bind_eq_some_iff.mp e
  obtain ⟨oc,e5,rfl⟩:=Option.map_eq_some_iff.mp e
  obtain ⟨c1,c⟩:=Bool.and_eq_true_iff.mp c
  obtain ⟨c,c7⟩:=Bool.and_eq_true_iff.mp c
  obtain ⟨c,c6⟩:=Bool.and_eq_true_iff.mp c
  obtain ⟨c,c5⟩:=Bool.and_eq_true_iff.mp c
  obtain ⟨c,c4⟩:=Bool.and_eq_true_iff.mp c
  obtain ⟨c,c3⟩:=Bool.and_eq_true_iff.mp c
  obtain ⟨uu,hd⟩:=Option.isSome_iff_exists.mp c7
  have ed:=vw_some vFunc_b e2
  refine ⟨o,fd,b,hide_keep g ha hs (fun i n q=>nomatch ed.symm.trans q),(vw_some vType_b e1).trans (congrArg Value.type (beq_iff_eq.mp c)),ed,vw_some vStmts_b e3,c1,?_,beq_iff_eq.mp c4,List.isEmpty_iff.mp c5,beq_iff_eq.mp c6,vw_some vNone_b hd⟩
  obtain ⟨c,o,vs,t,z1,z2,z3,z4⟩:=codeRec_of (h:=h) (K:=[(ca,oc)]) (frag1 (X _ _ e5)) c3
  exact ⟨c,o,vs,t,z1,hide_keep z2 ha hs (fun i n q=>nomatch z3.symm.trans q),z3,z4⟩
theorem fnIn_e {v:Option Value} (X:Sub h0 h) (ha:h.get? A=some oa) (hs:∃ items n,oa.data = .seq items n) (e:(valS h0 v).any (chkG fn)=true):∃ a,v=some (.ref a)/\FnR (hide h A) fn a:=by
  obtain ⟨t,e,c⟩:=(Option.any_eq_true ..).mp e
  obtain ⟨v,hv,e⟩:=Option.bind_eq_some_iff.mp e
  obtain ⟨a,e1,e⟩:=Option.bind_eq_some_iff.mp e
  obtain ⟨o,g,e⟩:=Option.bind_eq_some_iff.mp e
  exact ⟨a,hv.trans (congrArg some (vw_some vRef_b e1)),fnOb_e X ha hs e c (X _ _ g)⟩
theorem es_of {es:Array DictEntry} (X:Sub h0 h) (n:h.Ns ns m) (e:nsE h0 ns=some es) (x:Str):nsFind es x=m x:=by
  obtain ⟨o,e1,e⟩:=Option.bind_eq_some_iff.mp e
  obtain ⟨o',es',ep,f1,f2,uu,f3⟩:=n
  obtain rfl:=Option.some.inj ((X _ _ e1).symm.trans f1)
  have e2:(vDict o.data).map (·.1)=some es':=congrArg (fun d=>(vDict d).map (·.1)) f2
  obtain rfl:=Option.some.inj (e.symm.trans e2)
  exact f3 x
theorem glob_of {v:Value} (X:Sub h0 h) (n:h.Ns ns m) (e:nsH h0 ns x=some v):m (Str.ofString x)=some v:=by
  obtain ⟨es,e1,e2⟩:=Option.bind_eq_some_iff.mp e
  exact (es_of X n e1 _).symm.trans e2
theorem hides_of {l:List String} (X:Sub h0 h) (n:h.Ns ns m) (e:hides h0 ns l=true):∀ x ∈ l,m (Str.ofString x)=none:=fun x hx=>by
  obtain ⟨es,e1,e2⟩:=(Option.any_eq_true ..).mp e
  exact (es_of X n e1 _).symm.trans (Option.isNone_iff_eq_none.mp (List.all_eq_true.mp e2 x hx))
theorem clsN_of (X:Sub h0 h) (e:((nsE h0 ns).any fun es=>es.all fun e=>(vStr e.key).isSome)=true):∃ m,h.Ns ns m:=by
  obtain ⟨es,e0,e⟩:=(Option.any_eq_true ..).mp e
  obtain ⟨o,g,e1⟩:=Option.bind_eq_some_iff.mp e0
  obtain ⟨t,e5,rfl⟩:=Option.map_eq_some_iff.mp e1
  refine ⟨nsFind t.1,⟨o,t.1,t.2,X _ _ g,vw_some vDict_b e5,fun en he=>?_,fun uu=>rfl⟩⟩
  obtain ⟨u,hu⟩:=Option.isSome_iff_exists.mp (Array.all_eq_true_iff_forall_mem.mp e en he)
  exact ⟨u.1,u.2,vw_some vStr_b hu⟩
end
noncomputable def biV (f:String):Value:=if f = "range" \/ f = "list" \/ f = "dict" then .type f else .builtin f
theorem bi_boot:∀ f ∈ biNames,Str.ofString f ≠ "__name__" /\ bootBuiltins (Str.ofString f)=some (biV f) :=
  List.forall_mem_cons.mpr ⟨⟨by decide,by first | rfl | decide +kernel⟩,List.forall_mem_cons.mpr ⟨⟨by decide,by first | rfl | decide +kernel⟩,List.forall_mem_cons.mpr ⟨⟨by decide,by first | rfl | decide +kernel⟩,List.forall_mem_cons.mpr ⟨⟨by decide,by first | rfl | decide +kernel⟩,
  List.forall_mem_cons.mpr ⟨⟨by decide,by first | rfl | decide +kernel⟩,List.forall_mem_cons.mpr ⟨⟨by decide,by first | rfl | decide +kernel⟩,List.forall_mem_cons.mpr ⟨⟨by decide,by first | rfl | decide +kernel⟩,List.forall_mem_cons.mpr ⟨⟨by decide,by first | rfl | decide +kernel⟩,List.forall_mem_nil _⟩⟩⟩⟩⟩⟩⟩⟩
theorem defs_ok:fnsL.all (fun p=>(defOf p.1 prog.main.body).any (chkG p.2))=true:=by kernel_rfl
theorem gok2_of {h0 h:Heap} {mg mb:Str->Option Value} {A:Addr} {prog:Program} {w:World} {os:OsState} {dr:Drawn} {XX:Addr->Prop} {oa:Obj} (X:Sub h0 h) (hK:seenF h0=goodF)
    (g:h.Ns mainGlobals mg) (b:h.Ns builtinsNs mb) (hb:∀ x:Str,x ≠ "__name__" -> mb x=bootBuiltins x) (nl:h.NoLimit) (sy:∃ mm,h.Ns sysModules mm) (ha:h.get? A=some oa) (hs:∃ items n,oa.data = .seq items n) :
    GOK2 ⟨prog,w,hide h A,181,mg,mb,os,dr,XX⟩:=by
  obtain ⟨k1,hK⟩:=Prod.mk.inj hK
  obtain ⟨hK,k6⟩:=Prod.mk.inj hK
  have k1:∀ p ∈ fnsL,(see h0 180 p.1).any (chkG p.2)=true:=fun p hp=>(List.map_eq_map_iff.mp k1 p hp) ▸ List.all_eq_true.mp defs_ok p hp
  obtain ⟨hK,k5⟩:=Bool.and_eq_true_iff.mp hK
  obtain ⟨hK,k4⟩:=Bool.and_eq_true_iff.mp hK
  obtain ⟨hK,k3⟩:=Bool.and_eq_true_iff.mp hK
  obtain ⟨hK,k2⟩:=Bool.and_eq_true_iff.mp hK
  obtain ⟨mN,cN⟩:=clsN_of X k5
  have hz:=hides_of X cN k4
  have hg:=hides_of X g k2
  have cA:ClsAt (hide h A) 181 180 mN:=⟨⟨_,_,_,_,_,_,_,_,_,_,_,_,hide_keep (X _ _ k6) ha hs nofun⟩,ns_hide ha hs cN⟩
  have init:∀ p ∈ fnsL,p.1=initN->∃ a,mN initN=some (.ref a)/\FnR (hide h A) p.2 a:=fun p hp hn=>by
    have e:=k1 p hp
    rw [see,beq_iff_eq.mpr hn] at e
    obtain ⟨a,ea,F⟩:=fnIn_e X ha hs e
    exact ⟨a,glob_of X cN ea,F⟩
  refine ⟨⟨?_,ns_hide ha hs g,ns_hide ha hs b,?_,?_⟩,fun x i hx=>?_,fun f hf=>?_,?_,?_,fun p hp=>?_,fun a a' h1 h2=>?_⟩
  · obtain ⟨mc,n1,n2⟩:=nl; exact ⟨mc,ns_hide ha hs n1,n2⟩
  · obtain ⟨mm,n1⟩:=sy
    obtain ⟨o,uu,uu,e,uu⟩:=ns_hide ha hs n1
    exact ⟨o,e⟩
  · obtain ⟨ia,ie,o,fd,body,f2,f3,uu⟩:=init (initN,f_init) (List.mem_of_getElem? (i:=22) rfl) rfl
    exact ⟨180,mN,ia,o,cA,hz "__setattr__" (.head _),hz "__getattribute__" (.tail _ (.head _)),fun x hx=>hz x (.tail _ (.tail _ hx)),ie,f2,f3⟩
  · obtain ⟨v,hv,e⟩:=(Option.any_eq_true ..).mp (List.all_eq_true.mp hK (x,i) hx)
    obtain ⟨t,ht,e⟩:=(Option.any_eq_true ..).mp e
    obtain rfl:=beq_iff_eq.mp e
    exact ⟨t.2,(glob_of X g hv).trans (congrArg some (vw_some vInt_b ht))⟩
  · obtain ⟨h1,h2⟩:=bi_boot f hf
    exact ⟨hg f (.tail _ hf),(hb _ h1).trans h2⟩
  · exact ⟨hg "zip" (.head _),(hb _ (by decide)).trans (by first | rfl | decide +kernel)⟩
  · obtain ⟨v,hv,e⟩:=(Option.any_eq_true ..).mp k3
    obtain ⟨t,ht,e⟩:=(Option.any_eq_true ..).mp e
    obtain rfl:=beq_iff_eq.mp e
    exact (glob_of X g hv).trans (congrArg some (vw_some vRef_b ht))
  · by_cases hn:p.1=initN
    · obtain ⟨a,ea,F⟩:=init p hp hn
      exact ⟨a,.inr ⟨hn,180,mN,cA,ea⟩,F⟩
    · have e:=k1 p hp
      rw [see,beq_eq_false_iff_ne.mpr hn] at e
      obtain ⟨a,ea,F⟩:=fnIn_e X ha hs e
      exact ⟨a,.inl ⟨hn,glob_of X g ea⟩,F⟩
  · rcases h1 with ⟨q,uu⟩ | ⟨uu,N1,m1,x1,y1⟩
    · exact absurd rfl q
    rcases h2 with ⟨q,uu⟩ | ⟨uu,N2,m2,x2,y2⟩
    · exact absurd rfl q
    exact (Value.ref.inj (Option.some.inj (y1.symm.trans ((clsAt_uniq x1 x2 "__init__").trans y2))))
end Mine
end
section
open PySem PySem.W PyProof.Rows PySem.SeqAt PySem.Calls
set_option maxRecDepth 100000
set_option maxHeartbeats 4000000
namespace Mine
noncomputable def plainKinds (names:FI):Bool:=names.all fun p=>p.2 == .local || p.2 == .globalImplicit
theorem law_join {h0:Heap} {s₁:Shared} {mg mb:Str->Option Value} {prog:Program} {w:World} {A fa:Addr} {vs:List Value} {is:List Int} (X:Sub h0 s₁.heap) (hK:seenF h0=goodF)
    (g:s₁.heap.Ns mainGlobals mg) (b:s₁.heap.Ns builtinsNs mb) (hb:∀ x:Str,x ≠ "__name__" -> mb x=bootBuiltins x) (nl:s₁.heap.NoLimit) (sy:∃ mm,s₁.heap.Ns sysModules mm) (hg:s₁.gens = #[])
    (hA:s₁.heap.IsList A vs.toArray) (hI:IntsAre vs is) {h₁:Heap} {tk:Nat} {name:Str} {scope:Scope} {body:List Stmt} {cd:Value} {m:Str->Option Value} (F:Fr s₁.heap s₁.heap.objs.size h₁ m)
    (hk:scope.kind = .function) (hnd:nodupB scope.names=true) (hpl:plainKinds scope.names=true) (chk:chkSs scope.names f_law.body body=true) {x:Str} (h0:scope.names[0]? = some (x,.local)) (hm:m x=some (.ref A))
    {n:Nat} (hn:n<=100) (law:∀ (H:AH) (a:Nat),H a=some (.flist (is.map V.int))->(∀ b,b ≠ a->H b=none)->wpSs (callN fns n) f_law.body (initEnv f_law [.ref a]) H fun o uu uu=>o.val = .bool true)
    {Q:Flow->Shared->Prop} {E:Value->Shared->Prop}
    (q:∀ s':Shared,(∀ b o,s₁.heap.get? b=some o->s'.heap.get? b=some o)->s'.os=s₁.os->s'.gens = #[]->Q (.ret (.bool true)) s') :
    wpAny (model prog w) (callerA.deeper (envOf name scope s₁.heap.objs.size fa cd)) (execs body (envOf name scope s₁.heap.objs.size fa cd)) Q E { heap:=h₁,gens:=s₁.gens,drawn:=s₁.drawn,toks:=tk,os:=s₁.os }:=by
  obtain ⟨oA,a1,a2,nA,a3⟩:=id hA
  have gk:GOK2 ⟨prog,w,hide s₁.heap A,181,mg,mb,s₁.os,s₁.drawn,fun uu=>False⟩:=gok2_of X hK g b hb nl sy a1 ⟨_,_,a3⟩
  let G:GC:=⟨prog,w,hide s₁.heap A,181,mg,mb,s₁.os,s₁.drawn,fun uu=>False⟩
  let H:AH:=fun b=>if b=A then some (.flist (is.map V.int)) else none
  have HA:H A=some (.flist (is.map V.int)):=if_pos rfl
  have Hn:∀ b,b ≠ A->H b=none:=fun b hb=>if_neg hb
  have hlt:A<s₁.heap.objs.size:=Heap.lt_size a1
  have R:Rep G H { heap:=h₁,gens:=s₁.gens,drawn:=s₁.drawn,toks:=tk,os:=s₁.os }:=by
    refine ⟨fun b o e=>?_,fun b o e=>F.keep _ _ (hide_sub e),fun b o e=>?_,fun b x=>x.elim,hg,rfl,rfl⟩
    · by_cases hb:b=A
      · subst hb
        rw [HA] at e; cases e
        exact ⟨vs.toArray,⟨oA,F.keep _ _ a1,a2,nA,a3⟩,by simpa using rep_ints hI⟩
      · rw [Hn b hb] at e; cases e
    · exact Hn b fun hb=>by rw [hb] at e; rw [hide_none] at e; cases e
  have o:EnvOK scope.names (envOf name scope s₁.heap.objs.size fa cd):=⟨hk,rfl,rfl,rfl,by simpa [nodupB] using hnd⟩
  have Fm:FrR G scope.names (envOf name scope s₁.heap.objs.size fa cd) H (initEnv f_law [.ref A]) { heap:=h₁,gens:=s₁.gens,drawn:=s₁.drawn,toks:=tk,os:=s₁.os }:=by
    refine ⟨Hn _ (Nat.ne_of_gt hlt),?_,⟨m,F.ns,fun i y v h1 h2=>?_⟩,fun i y k h1 h2=>?_,fun y z c h1 h2=>by cases h1⟩
    · cases e:(hide s₁.heap A).get? s₁.heap.objs.size with
      | none=>exact e
      | some o=>have:=hide_sub e; rw [none_size] at this; cases this
    · have:=init_get h2
      cases i with
      | zero=>
        simp at this; subst this
        rw [h0] at h1; cases h1
        exact ⟨_,hm,rfl⟩
      | succ i=>simp at this
    · exfalso
      have:=List.all_eq_true.mp hpl (y,k) (List.mem_of_getElem? h1)
      rcases h2 with rfl | rfl <;> simp at this
  have r:Room n (callerA.deeper (envOf name scope s₁.heap.objs.size fa cd)):=by
    refine ⟨rfl,?_,?_⟩
    · show 1+300+1+4*n+2<=900
      omega
    · show 4+3+20*n+10<=9000
      omega
  refine wpAny_mono (sSs (C:=callN fns n) (fun G gk f vs H Q=>call_sound n G gk f vs H Q) f_law.body G gk scope.names body chk (initEnv f_law [.ref A]) H _ (law H A HA Hn) _ _ _ r o R Fm) (fun f s' z=>?_) fun uu uu z=>z.elim
  obtain ⟨oo,ρ',H',st,R',F',fl,hq⟩:=z
  have key:∀ b o,s₁.heap.get? b=some o->s'.heap.get? b=some o:=fun b o e=>by
    by_cases hb:b=A
    · subst hb
      refine st.kp _ _ (F.keep _ _ e) (fun mu=>?_) (fun ow=>?_)
      · obtain ⟨o2,e1,e2⟩:=mu
        rw [HA] at e1; cases e1; cases e2
      · rcases ow with h | ⟨y,h1,h2⟩
        · have h:b=s₁.heap.objs.size:=h
          exact Nat.ne_of_lt hlt h
        · cases h2
    · exact R'.ground _ _ ((Heap.get?_update_other _ _ (Ne.symm hb)).trans e)
  cases oo with
  | next=>cases hq
  | ret v=>
    obtain ⟨wv,rfl,e⟩:=fl
    have hv:v = .bool true:=hq
    subst hv
    obtain rfl:=e
    exact q s' key (st.os) (st.gens.trans hg)
end Mine
end
section
open PySem PySem.W PyProof.Rows
set_option maxRecDepth 100000
set_option maxHeartbeats 8000000
namespace Mine
noncomputable def Says (h:Heap):Prop:=∃ h0,Sub h0 h/\seenF h0=goodF
theorem Says.keeps {h h':Heap} (x:Says h) (k:∀ b o,h.get? b=some o->h'.get? b=some o):Says h':=by
  obtain ⟨h0,X,e⟩:=x
  exact ⟨h0,fun b o z=>k b o (X b o z),e⟩
theorem wR:PySem.Challenge.rw_pb0362_01.row.wellSaid=true:=by
  unfold OpenRow.wellSaid OpenRow.partSaid looksOpen
  repeat' (with_reducible refine look_both ?_ ?_)
  all_goals decide +kernel
theorem wS:PySem.Challenge.rw_pb0362_01.wellSaid=true:=by
  unfold OpenLaw.wellSaid
  repeat' (with_reducible refine look_both ?_ ?_)
  · exact wR
  all_goals decide +kernel
end Mine
open Mine
theorem PySem.Challenge.cw_pb0362_01_holds : PySem.Challenge.rw_pb0362_01.Holds := by
  refine holds_law wS fun said=>?_
  refine holds_open (q:=viewQ) (loose:=looseQ) (Xt:=topX) (XP:=XL viewQ []) (Yf:=fun s=>seenF s.heap) (Ya:=fun uu=>goodF) (YP:=fun w h=>Says h) (N:=4432) hl1 (fun w s e=>⟨s.heap,fun uu uu z=>z,e⟩) (fun uu uu uu=>Says.keeps) (fun s e=>xl_of s (Bool.and_eq_true_iff.mp e).1) XL.keeps (by rfl) (by rfl) (by rfl) (fun s e=>recFacts_of (Bool.and_eq_true_iff.mp e).2) (by rfl) said (by decide +kernel) ⟨rfl,rfl,rfl,rfl,rfl,by decide +kernel⟩ ?hw ?hc
  case hw=>w_witness2
  case hc=>
    w_strict (
      intro w s₀ s₁ mg mb G Y fa o pm cd doc dV kV ho hd hcd hD hmg hg args vals as hpre hlay hrd hwl hlo
      obtain ⟨h0,KX,hK⟩:=Y
      have X:=(Ground.X G).1
      have V:=(Ground.X G).2
      have GL:=glob_more (Ground.glob G (by decide +kernel) (by decide +kernel)) V
      refine Ground.open G ?_
      intro T B D TE TW
      refine guard_noD D (by decide +kernel) ?_
      clear D
      obtain ⟨uu,uu,he,B0⟩:=based_of_top T rfl hmg ho hd
      have he':cd=_:=he
      subst he'
      clear he hmg
      wrow_args hpre hlay hrd hwl hlo
      refine enter_call ?_
      w_top on
      refine codeAny_mono ?_ (fun uu uu g=>GoodW.toG g)
      w_call any ho hd hcd hD T F
      clear hd
      k_drop
      rename Fr _ _ _ _=>FF
      rename IntsAre _ _=>II
      rename Heap.IsList _ _ _=>LL
      rename (_ = #[])=>hg
      rename ¬ ((63:Nat):Int)<_=>h63
      refine law_join KX hK GL.g GL.b GL.builtins GL.nolimit (by obtain ⟨mm,h,uu⟩:=GL.seer.mods; exact ⟨mm,h⟩) hg LL II FF rfl ?h1 ?h2 ?h3 (x:=Str.ofString "script") rfl rfl (n:=20) (by decide) (Mine.Wk.law_ok _ ?h4) ?h5
      case h1=>decide +kernel
      case h2=>decide +kernel
      case h3=>decide +kernel
      case h4=>omega
      case h5=>
        intro s' k1 k2 k3
        exact ⟨.inl ⟨.bool true,.bool true,[],rfl,fun uu=>rfl,.bool true,by first | with_unfolding_all rfl | kernel_rfl | (simp; done),fun uu=>⟨.nil,by simp⟩⟩,k1,k2,k3⟩)
end
