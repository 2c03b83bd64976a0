import PyProof.Rows.All
import Wide.All
import OpenK.AllK
import Wide.FinOn
import Lean
import PySem.Challenge.RW_nn0324_01
set_option Elab.async false
set_option maxRecDepth 100000
set_option linter.all false
namespace Mine
abbrev Nm:=List Nat
inductive AV where
 | none
 | bool (b:Bool)
 | int (i:Int)
 | str (s:Nm)
 | tup (vs:List AV)
 | ref (a:Nat)
 deriving Repr,Inhabited
mutual
def AV.beq:AV→AV→Bool
 | .none,.none=>true
 | .bool a,.bool b=>a == b
 | .int a,.int b=>decide (a=b)
 | .str a,.str b=>decide (a=b)
 | .tup a,.tup b=>AV.beqL a b
 | .ref a,.ref b=>decide (a=b)
 | _,_=>false
def AV.beqL:List AV→List AV→Bool
 | [],[]=>true
 | x::xs,y::ys=>AV.beq x y&&AV.beqL xs ys
 | _,_=>false
end
mutual
theorem AV.beq_iff:∀ (a b:AV),AV.beq a b=true↔a=b
 | .none,b=>by cases b<;>simp[AV.beq]
 | .bool x,b=>by cases b<;>simp[AV.beq]
 | .int x,b=>by cases b<;>simp[AV.beq]
 | .str x,b=>by cases b<;>simp[AV.beq]
 | .tup x,b=>by
  cases b<;>simp[AV.beq]
  exact AV.beqL_iff x _
 | .ref x,b=>by cases b<;>simp[AV.beq]
theorem AV.beqL_iff:∀ (a b:List AV),AV.beqL a b=true↔a=b
 | [],b=>by cases b<;>simp[AV.beqL]
 | x::xs,b=>by
  cases b with
  | nil=>simp[AV.beqL]
  | cons y ys=>simp only[AV.beqL,Bool.and_eq_true,List.cons.injEq];rw[AV.beq_iff x y,AV.beqL_iff xs ys]
end
instance:DecidableEq AV:=fun a b=>decidable_of_iff _ (AV.beq_iff a b)
inductive AO where
 | list (vs:List AV)
 | dict (es:List (AV × AV))
 | inst (d:Nat)
 deriving Repr,Inhabited,DecidableEq
abbrev Hp:=List AO
abbrev Loc:=List (Option AV)
inductive Op where | add | sub | mul | fdiv | mod | pow | shl | shr | band | bor | bxor
 deriving Repr,DecidableEq
inductive Cmp where | eq | ne | lt | gt | ge | in_ | notIn
 deriving Repr,DecidableEq
inductive BI where | len | list | tuple | sum | min1 | min2 | str | lenset
 deriving Repr,DecidableEq
inductive Me where | append | extend | pop | index | get
 deriving Repr,DecidableEq
inductive Tgt where | one (i:Nat) | many (is:List Nat)
 deriving Repr,DecidableEq
mutual
inductive E where
 | const (v:AV)
 | loc (i:Nat)
 | free (i:Nat)
 | bin (o:Op) (a b:E)
 | neg (a:E)
 | not (a:E)
 | bop (isAnd:Bool) (es:List E)
 | cmp (o:Cmp) (a b:E)
 | ite (t a b:E)
 | tup (es:List E)
 | list (es:List E)
 | dict (kvs:List E)
 | attr (o:E) (n:Nm)
 | sub (o i:E)
 | slice (o:E) (n:Nat)
 | call (f:Nat) (es:List E)
 | new (es:List E)
 | meth (o:E) (f:Nat) (es:List E)
 | bi (b:BI) (es:List E)
 | bm (m:Me) (o:E) (es:List E)
 | comp (k:Nat) (t:Tgt) (rng:Bool) (it:E) (g:G)
inductive G where
 | elt (e:E)
 | if_ (c:E) (g:G)
 | for_ (t:Tgt) (rng:Bool) (it:E) (g:G)
end
inductive S where
 | assign (t:Tgt) (e:E)
 | setAttr (o:E) (n:Nm) (e:E)
 | setSub (o i e:E)
 | augLoc (i:Nat) (op:Op) (e:E)
 | augAttr (o:E) (n:Nm) (op:Op) (e:E)
 | augSub (o i:E) (op:Op) (e:E)
 | expr (e:E)
 | ret (e:E)
 | ite (t:E) (b o:List S)
 | while_ (t:E) (b:List S)
 | for_ (t:Tgt) (rng:Bool) (it:E) (b:List S)
 | cont
 | pass
 | fail
inductive Fl where | next | cont | ret (v:AV)
 deriving Repr,DecidableEq
structure Fn where
 np:Nat
 nl:Nat
 body:List S
def truthy(h:Hp):AV→Option Bool
 | .none=>some false
 | .bool b=>some b
 | .int i=>some (decide (i≠0))
 | .ref a=>match h[a]? with
  | some (.list vs)=>some (!vs.isEmpty)
  | _=> .none
 | _=> .none
inductive D where
 | none
 | int (i:Int)
 | str (s:Nm)
 | tup (ds:List D)
 | list (ds:List D)
 deriving Repr,Inhabited
mutual
def D.beq:D→D→Bool
 | .none,.none=>true
 | .int a,.int b=>decide (a=b)
 | .str a,.str b=>decide (a=b)
 | .tup a,.tup b=>D.beqL a b
 | .list a,.list b=>D.beqL a b
 | _,_=>false
def D.beqL:List D→List D→Bool
 | [],[]=>true
 | x::xs,y::ys=>D.beq x y&&D.beqL xs ys
 | _,_=>false
end
mutual
theorem D.beq_iff:∀ (a b:D),D.beq a b=true↔a=b
 | .none,b=>by cases b<;>simp[D.beq]
 | .int x,b=>by cases b<;>simp[D.beq]
 | .str x,b=>by cases b<;>simp[D.beq]
 | .tup x,b=>by
  cases b<;>simp[D.beq]
  exact D.beqL_iff x _
 | .list x,b=>by
  cases b<;>simp[D.beq]
  exact D.beqL_iff x _
theorem D.beqL_iff:∀ (a b:List D),D.beqL a b=true↔a=b
 | [],b=>by cases b<;>simp[D.beqL]
 | x::xs,b=>by
  cases b with
  | nil=>simp[D.beqL]
  | cons y ys=>simp only[D.beqL,Bool.and_eq_true,List.cons.injEq];rw[D.beq_iff x y,D.beqL_iff xs ys]
end
instance:DecidableEq D:=fun a b=>decidable_of_iff _ (D.beq_iff a b)
def res(h:Hp):Nat→AV→Option D
 | 0,_=> .none
 | n+1,v=>match v with
  | .none=>some .none
  | .bool b=>some (.int (if b then 1 else 0))
  | .int i=>some (.int i)
  | .str s=>some (.str s)
  | .tup vs=>(vs.mapM (res h n)).map .tup
  | .ref a=>match h[a]? with
   | some (.list vs)=>(vs.mapM (res h n)).map .list
   | _=> .none
def eqFuel:Nat:=24
def eqV(h:Hp)(a b:AV):Option Bool:=match res h eqFuel a,res h eqFuel b with
 | some x,some y=>some (decide (x=y))
 | _,_=> .none
def isAtom:AV→Bool
 | .int _=>true
 | .str _=>true
 | _=>false
def isKey:AV→Bool
 | .int _=>true
 | .str _=>true
 | .tup vs=>vs.all isAtom
 | _=>false
def dfind(es:List (AV × AV))(k:AV):Option AV:=match es with
 | []=> .none
 | (a,v)::r=>if a=k then some v else dfind r k
def dput(es:List (AV × AV))(k v:AV):List (AV × AV):=match es with
 | []=>[(k,v)]
 | (a,x)::r=>if a=k then (a,v)::r else (a,x)::dput r k v
def powLid:Int:=1024
def shlLid:Int:=1024
def mulLid:Int:=4294967296
def strLid:Int:=256
def lenLid:Nat:=1048576
def band(a b:Int):Option Int:=if 0≤a∧0≤b then some ((a.toNat &&& b.toNat:Nat):Int) else .none
def bor(a b:Int):Option Int:=if 0≤a∧0≤b then some ((a.toNat ||| b.toNat:Nat):Int) else .none
def bxor(a b:Int):Option Int:=if 0≤a∧0≤b then some ((a.toNat ^^^ b.toNat:Nat):Int) else .none
def intOp:Op→Int→Int→Option Int
 | .add,a,b=>some (a+b)
 | .sub,a,b=>some (a - b)
 | .mul,a,b=>if 0≤b∧b<mulLid∧0≤a∧a<mulLid then some (a * b) else .none
 | .fdiv,a,b=>if 0<b∧b<mulLid then some (a / b) else .none
 | .mod,a,b=>if 0<b then some (a % b) else .none
 | .pow,a,b=>if a=2∧0≤b∧b<powLid then some (2 ^ b.toNat) else .none
 | .shl,a,b=>if 0≤b∧b<shlLid∧0≤a∧a<mulLid then some (a * 2 ^ b.toNat) else .none
 | .shr,a,b=>if 0≤b∧b<shlLid then some (a / 2 ^ b.toNat) else .none
 | .band,a,b=>band a b
 | .bor,a,b=>bor a b
 | .bxor,a,b=>bxor a b
def getList(h:Hp):AV→Option (List AV)
 | .ref a=>match h[a]? with
  | some (.list vs)=>some vs
  | _=> .none
 | _=> .none
def binV(h:Hp)(o:Op)(a b:AV):Option (AV × Hp):=match a,b with
 | .int x,.int y=>(intOp o x y).map fun z=>(.int z,h)
 | .str x,.str y=>match o with
  | .add=>if x.length+y.length<lenLid then some (.str (x++y),h) else .none
  | _=> .none
 | .ref x,.ref y=>match o,h[x]?,h[y]? with
  | .add,some (.list xs),some (.list ys)=>if xs.length+ys.length<lenLid then some (.ref h.length,h++[.list (xs++ys)]) else .none
  | _,_,_=> .none
 | _,_=> .none
def inplV(h:Hp)(o:Op)(a b:AV):Option (AV × Hp):=match a,b with
 | .int x,.int y=>(intOp o x y).map fun z=>(.int z,h)
 | .ref x,.ref y=>match o,h[x]?,h[y]? with
  | .add,some (.list xs),some (.list ys)=>if x≠y∧xs.length+ys.length<lenLid then some (.ref x,h.set x (.list (xs++ys))) else .none
  | _,_,_=> .none
 | _,_=> .none
def anyEq(h:Hp)(x:AV)(vs:List AV):Option Bool:=match res h eqFuel x,vs.mapM (res h eqFuel) with
 | some d,some ds=>some (decide (d∈ds))
 | _,_=> .none
def idxEq(h:Hp)(x:AV)(vs:List AV):Option Nat:=match res h eqFuel x,vs.mapM (res h eqFuel) with
 | some d,some ds=>ds.findIdx? (fun y=>decide (y=d))
 | _,_=> .none
def containsV(h:Hp)(x c:AV):Option Bool:=match c with
 | .ref a=>match h[a]? with
  | some (.list vs)=>anyEq h x vs
  | some (.dict es)=>if isKey x then some (dfind es x).isSome else .none
  | _=> .none
 | _=> .none
def cmpV(h:Hp)(o:Cmp)(a b:AV):Option Bool:=match o with
 | .eq=>eqV h a b
 | .ne=>(eqV h a b).map (!·)
 | .in_=>containsV h a b
 | .notIn=>(containsV h a b).map (!·)
 | .lt=>match a,b with
  | .int x,.int y=>some (decide (x<y))
  | _,_=> .none
 | .gt=>match a,b with
  | .int x,.int y=>some (decide (x>y))
  | _,_=> .none
 | .ge=>match a,b with
  | .int x,.int y=>some (decide (x≥y))
  | _,_=> .none
def seqAt(vs:List AV)(i:Int):Option AV:=
 if 0≤i then vs[i.toNat]? else if 0≤i+vs.length then vs[(i+vs.length).toNat]? else .none
def subV(h:Hp)(o i:AV):Option AV:=match o with
 | .tup vs=>match i with
  | .int i=>seqAt vs i
  | _=> .none
 | .ref a=>match h[a]? with
  | some (.list vs)=>(match i with
   | .int i=>seqAt vs i
   | _=> .none)
  | some (.dict es)=>if isKey i then dfind es i else .none
  | _=> .none
 | _=> .none
def setSubV(h:Hp)(o i v:AV):Option Hp:=match o with
 | .ref a=>match h[a]? with
  | some (.list vs)=>(match i with
   | .int i=>if 0≤i∧i.toNat<vs.length then some (h.set a (.list (vs.set i.toNat v))) else .none
   | _=> .none)
  | some (.dict es)=>if isKey i∧es.length<lenLid then some (h.set a (.dict (dput es i v))) else .none
  | _=> .none
 | _=> .none
def attrNames:List Nm:=[[110,97,109,101],[99,111,117,110,116],[105,110,112,117,116,115],[111,117,116,112,117,116,115],[99,101,108,108,115]]
def okDict(es:List (AV × AV)):Bool:=es.all fun p=>match p.1 with
 | .str s=>attrNames.contains s
 | _=>false
def okInst(h:Hp)(a:Nat):Bool:=match h[a]? with
 | some (.inst d)=>(match h[d]? with
  | some (.dict es)=>okDict es
  | _=>false)
 | _=>false
def attrV(h:Hp)(o:AV)(n:Nm):Option AV:=match o with
 | .ref a=>match h[a]? with
  | some (.inst d)=>match h[d]? with
   | some (.dict es)=>if attrNames.contains n then dfind es (.str n) else .none
   | _=> .none
  | _=> .none
 | _=> .none
def setAttrV(h:Hp)(o:AV)(n:Nm)(v:AV):Option Hp:=match o with
 | .ref a=>match h[a]? with
  | some (.inst d)=>match h[d]? with
   | some (.dict es)=>if es.length<100∧okDict es=true∧attrNames.contains n=true then some (h.set d (.dict (dput es (.str n) v))) else .none
   | _=> .none
  | _=> .none
 | _=> .none
def strInt(i:Int):Nm:=if i<10 then [48+i.toNat] else if i<100 then [48+i.toNat / 10,48+i.toNat % 10] else [48+i.toNat / 100,48+i.toNat / 10 % 10,48+i.toNat % 10]
def intsOf:List AV→Option (List Int)
 | []=>some []
 | .int i::r=>(intsOf r).map (i:: ·)
 | _::_=> .none
def minL:List Int→Option Int
 | []=> .none
 | a::r=>some (r.foldl (fun m x=>if x<m then x else m) a)
def dedup(l:List Int):List Int:=l.foldl (fun acc x=>if acc.any (· == x) then acc else acc++[x]) []
def dedupLen(l:List Int):Nat:=(dedup l).length
def biV(h:Hp)(b:BI)(vs:List AV):Option (AV × Hp):=match b,vs with
 | .len,[.tup vs]=>some (.int vs.length,h)
 | .len,[.ref a]=>match h[a]? with
  | some (.list vs)=>some (.int vs.length,h)
  | _=> .none
 | .list,[.ref a]=>match h[a]? with
  | some (.list vs)=>some (.ref h.length,h++[.list vs])
  | _=> .none
 | .tuple,[.ref a]=>match h[a]? with
  | some (.list vs)=>some (.tup vs,h)
  | _=> .none
 | .sum,[.ref a]=>match h[a]? with
  | some (.list vs)=>(intsOf vs).map fun is=>(.int is.sum,h)
  | _=> .none
 | .min1,[.tup vs]=>do
  let is ← intsOf vs
  let m ← minL is
  return (.int m,h)
 | .min2,[.int a,.int b]=>some (.int (if b<a then b else a),h)
 | .str,[.int i]=>if 0≤i∧i<strLid then some (.str (strInt i),h) else .none
 | .lenset,[.tup vs]=>if vs.length<100 then (intsOf vs).map fun is=>(.int (dedupLen is),h) else .none
 | _,_=> .none
def bmOk(h:Hp)(m:Me)(o:AV):Bool:=match o with
 | .ref a=>(match h[a]? with
  | some (.list _)=>(match m with
   | .get=>false
   | _=>true)
  | some (.dict _)=>(match m with
   | .get=>true
   | _=>false)
  | _=>false)
 | _=>false
def bmV(h:Hp)(m:Me)(o:AV)(vs:List AV):Option (AV × Hp):=match o with
 | .ref a=>match h[a]? with
  | some (.list xs)=>(match m,vs with
   | .append,[v]=>if xs.length<lenLid then some (.none,h.set a (.list (xs++[v]))) else .none
   | .extend,[.tup ys]=>if xs.length+ys.length<lenLid then some (.none,h.set a (.list (xs++ys))) else .none
   | .extend,[.ref b]=>(match h[b]? with
    | some (.list ys)=>if a≠b∧xs.length+ys.length<lenLid then some (.none,h.set a (.list (xs++ys))) else .none
    | _=> .none)
   | .pop,[]=>match xs.getLast? with
    | some v=>some (v,h.set a (.list xs.dropLast))
    | .none=> .none
   | .index,[v]=>(idxEq h v xs).map fun i=>(.int i,h)
   | _,_=> .none)
  | some (.dict es)=>(match m,vs with
   | .get,[k,d]=>if isKey k then some ((dfind es k).getD d,h) else .none
   | _,_=> .none)
  | _=> .none
 | _=> .none
def pairUp:List AV→Option (List (AV × AV))
 | []=>some []
 | k::v::r=>if isKey k then (pairUp r).map ((k,v):: ·) else .none
 | [_]=> .none
def dictOfPairs(ps:List (AV × AV)):List (AV × AV):=ps.foldl (fun es p=>dput es p.1 p.2) []
def isStrKey:AV × AV→Bool
 | (.str _,_)=>true
 | _=>false
def itemsOf(h:Hp)(rng:Bool)(v:AV):Option (List AV × Option (Nat × AO)):=match rng,v with
 | true,.int n=>if 0≤n∧n<lenLid then some ((List.range n.toNat).map fun (i:Nat)=> .int i,.none) else .none
 | false,.tup vs=>some (vs,.none)
 | false,.ref a=>match h[a]? with
  | some (.list vs)=>some (vs,some (a,.list vs))
  | some (.dict es)=>if es.all isStrKey then some (es.map (·.1),some (a,.dict es)) else .none
  | _=> .none
 | _,_=> .none
def guardOk(h:Hp):Option (Nat × AO)→Bool
 | .none=>true
 | some (a,o)=>decide (h[a]? =some o)
def setAll:Loc→List Nat→List AV→Option Loc
 | c,[],[]=>some c
 | c,i::is,v::vs=>if i<c.length then setAll (c.set i (some v)) is vs else .none
 | _,_,_=> .none
def bindT(c:Loc)(t:Tgt)(v:AV):Option Loc:=match t with
 | .one i=>if i<c.length then some (c.set i (some v)) else .none
 | .many is=>match v with
  | .tup vs=>setAll c is vs
  | _=> .none
abbrev Caller:=Nat→List AV→Hp→Option (AV × Hp)
def loopIt{σ:Type}(hp:σ→Hp)(g:Option (Nat × AO))(f:σ→AV→Option σ):List AV→σ→Option σ
 | [],s=>if guardOk (hp s) g then some s else .none
 | v::vs,s=>if guardOk (hp s) g then (match f s v with
  | some s'=>loopIt hp g f vs s'
  | .none=> .none) else .none
mutual
def evE(cl:Caller):E→Loc→Loc→Hp→Option (AV × Hp)
 | .const v,_,_,h=>some (v,h)
 | .loc i,m,c,h=>match (if c.isEmpty then m else c)[i]? with
  | some (some v)=>some (v,h)
  | _=> .none
 | .free i,m,_,h=>match m[i]? with
  | some (some v)=>some (v,h)
  | _=> .none
 | .bin o a b,m,c,h=>do
  let (x,h) ← evE cl a m c h
  let (y,h) ← evE cl b m c h
  binV h o x y
 | .neg a,m,c,h=>do
  let (x,h) ← evE cl a m c h
  match x with
  | .int i=>some (.int (-i),h)
  | _=> .none
 | .not a,m,c,h=>do
  let (x,h) ← evE cl a m c h
  let b ← truthy h x
  return (.bool (!b),h)
 | .bop isAnd es,m,c,h=>evB cl isAnd es m c h
 | .cmp o a b,m,c,h=>do
  let (x,h) ← evE cl a m c h
  let (y,h) ← evE cl b m c h
  let r ← cmpV h o x y
  return (.bool r,h)
 | .ite t a b,m,c,h=>do
  let (x,h) ← evE cl t m c h
  let r ← truthy h x
  if r then evE cl a m c h else evE cl b m c h
 | .tup es,m,c,h=>do
  let (vs,h) ← evL cl es m c h
  return (.tup vs,h)
 | .list es,m,c,h=>do
  let (vs,h) ← evL cl es m c h
  return (.ref h.length,h++[.list vs])
 | .dict kvs,m,c,h=>do
  let (vs,h) ← evL cl kvs m c h
  let ps ← pairUp vs
  return (.ref h.length,h++[.dict (dictOfPairs ps)])
 | .attr o n,m,c,h=>do
  let (x,h) ← evE cl o m c h
  let v ← attrV h x n
  return (v,h)
 | .sub o i,m,c,h=>do
  let (x,h) ← evE cl o m c h
  let (y,h) ← evE cl i m c h
  let v ← subV h x y
  return (v,h)
 | .slice o n,m,c,h=>do
  let (x,h) ← evE cl o m c h
  let vs ← getList h x
  return (.ref h.length,h++[.list (vs.take n)])
 | .call f es,m,c,h=>do
  let (vs,h) ← evL cl es m c h
  cl f vs h
 | .new es,m,c,h=>do
  let (vs,h) ← evL cl es m c h
  let (r,h') ← cl 0 (.ref (h.length+1)::vs) (h++[.dict [],.inst h.length])
  match r with
  | .none=>some (.ref (h.length+1),h')
  | _=> .none
 | .meth o f es,m,c,h=>do
  let (x,h) ← evE cl o m c h
  match x with
  | .ref a=>if okInst h a then do
    let (vs,h) ← evL cl es m c h
    cl f (x::vs) h else .none
  | _=> .none
 | .bi b es,m,c,h=>do
  let (vs,h) ← evL cl es m c h
  biV h b vs
 | .bm b o es,m,c,h=>do
  let (x,h) ← evE cl o m c h
  if bmOk h b x then do
   let (vs,h) ← evL cl es m c h
   bmV h b x vs else .none
 | .comp k t rng it g,m,c,h=>do
  let (x,h) ← evE cl it m c h
  let (vs,gd) ← itemsOf h rng x
  let (_,h,acc) ← loopIt (fun s=>s.2.1) gd (fun (s:Loc × Hp × List AV) v=>do
   let c' ← bindT s.1 t v
   evG cl g m c' s.2.1 s.2.2) vs (List.replicate k .none,h,[])
  return (.ref h.length,h++[.list acc])
def evL(cl:Caller):List E→Loc→Loc→Hp→Option (List AV × Hp)
 | [],_,_,h=>some ([],h)
 | e::es,m,c,h=>do
  let (v,h) ← evE cl e m c h
  let (vs,h) ← evL cl es m c h
  return (v::vs,h)
def evB(cl:Caller)(isAnd:Bool):List E→Loc→Loc→Hp→Option (AV × Hp)
 | [],_,_,_=> .none
 | [e],m,c,h=>evE cl e m c h
 | e::es,m,c,h=>do
  let (v,h) ← evE cl e m c h
  let t ← truthy h v
  if t=isAnd then evB cl isAnd es m c h else some (v,h)
def evG(cl:Caller):G→Loc→Loc→Hp→List AV→Option (Loc × Hp × List AV)
 | .elt e,m,c,h,acc=>do
  let (v,h) ← evE cl e m c h
  if acc.length<lenLid then some (c,h,acc++[v]) else .none
 | .if_ e g,m,c,h,acc=>do
  let (v,h) ← evE cl e m c h
  let t ← truthy h v
  if t then evG cl g m c h acc else some (c,h,acc)
 | .for_ t rng it g,m,c,h,acc=>do
  let (x,h) ← evE cl it m c h
  let (vs,gd) ← itemsOf h rng x
  loopIt (fun s=>s.2.1) gd (fun (s:Loc × Hp × List AV) v=>do
   let c' ← bindT s.1 t v
   evG cl g m c' s.2.1 s.2.2) vs (c,h,acc)
end
def whileIt(test:Loc→Hp→Option (Bool × Hp))(body:Loc→Hp→Option (Fl × Loc × Hp)):Nat→Loc→Hp→Option (Fl × Loc × Hp)
 | 0,_,_=> .none
 | n+1,m,h=>match test m h with
  | some (true,h)=>match body m h with
   | some (.ret v,m,h)=>some (.ret v,m,h)
   | some (_,m,h)=>whileIt test body n m h
   | .none=> .none
  | some (false,h)=>some (.next,m,h)
  | .none=> .none
def forIt(gd:Option (Nat × AO))(t:Tgt)(body:Loc→Hp→Option (Fl × Loc × Hp)):List AV→Loc→Hp→Option (Fl × Loc × Hp)
 | [],m,h=>if guardOk h gd then some (.next,m,h) else .none
 | v::vs,m,h=>if guardOk h gd then (match bindT m t v with
  | some m=>match body m h with
   | some (.ret v,m,h)=>some (.ret v,m,h)
   | some (_,m,h)=>forIt gd t body vs m h
   | .none=> .none
  | .none=> .none) else .none
def tstE(cl:Caller)(e:E)(m:Loc)(h:Hp):Option (Bool × Hp):=do
 let (v,h) ← evE cl e m [] h
 let t ← truthy h v
 return (t,h)
mutual
def exS(cl:Caller)(W:Nat):S→Loc→Hp→Option (Fl × Loc × Hp)
 | .assign t e,m,h=>do
  let (v,h) ← evE cl e m [] h
  let m ← bindT m t v
  return (.next,m,h)
 | .setAttr o n e,m,h=>do
  let (v,h) ← evE cl e m [] h
  let (x,h) ← evE cl o m [] h
  let h ← setAttrV h x n v
  return (.next,m,h)
 | .setSub o i e,m,h=>do
  let (v,h) ← evE cl e m [] h
  let (x,h) ← evE cl o m [] h
  let (y,h) ← evE cl i m [] h
  let h ← setSubV h x y v
  return (.next,m,h)
 | .augLoc i op e,m,h=>do
  let (x,h) ← evE cl (.loc i) m [] h
  let (v,h) ← evE cl e m [] h
  let (r,h) ← inplV h op x v
  let m ← bindT m (.one i) r
  return (.next,m,h)
 | .augAttr o n op e,m,h=>do
  let (x,h) ← evE cl o m [] h
  let old ← attrV h x n
  let (v,h) ← evE cl e m [] h
  let (r,h) ← inplV h op old v
  let h ← setAttrV h x n r
  return (.next,m,h)
 | .augSub o i op e,m,h=>do
  let (x,h) ← evE cl o m [] h
  let (y,h) ← evE cl i m [] h
  let old ← subV h x y
  let (v,h) ← evE cl e m [] h
  let (r,h) ← inplV h op old v
  let h ← setSubV h x y r
  return (.next,m,h)
 | .expr e,m,h=>do
  let (_,h) ← evE cl e m [] h
  return (.next,m,h)
 | .ret e,m,h=>do
  let (v,h) ← evE cl e m [] h
  return (.ret v,m,h)
 | .ite t b o,m,h=>do
  let (r,h) ← tstE cl t m h
  if r then exL cl W b m h else exL cl W o m h
 | .while_ t b,m,h=>whileIt (tstE cl t) (fun m h=>exL cl W b m h) W m h
 | .for_ t rng it b,m,h=>do
  let (x,h) ← evE cl it m [] h
  let (vs,gd) ← itemsOf h rng x
  forIt gd t (fun m h=>exL cl W b m h) vs m h
 | .cont,m,h=>some (.cont,m,h)
 | .pass,m,h=>some (.next,m,h)
 | .fail,_,_=> .none
def exL(cl:Caller)(W:Nat):List S→Loc→Hp→Option (Fl × Loc × Hp)
 | [],m,h=>some (.next,m,h)
 | s::ss,m,h=>do
  let (f,m,h) ← exS cl W s m h
  match f with
  | .next=>exL cl W ss m h
  | f=>some (f,m,h)
end
def callF(P:Nat→Option Fn)(W:Nat):Nat→Caller
 | 0,_,_,_=> .none
 | n+1,f,vs,h=>match P f with
  | some fn=>if vs.length=fn.np then (match exL (callF P W n) W fn.body (vs.map some++List.replicate (fn.nl - fn.np) .none) h with
   | some (.ret v,_,h)=>some (v,h)
   | some (_,_,h)=>some (.none,h)
   | .none=> .none) else .none
  | .none=> .none
def f_Netlist_init:Fn:={ np:=2,nl:=2,body:=[
 .setAttr (.loc 0) [110,97,109,101] (.loc 1),
 .setAttr (.loc 0) [99,111,117,110,116] (.const (.int 2)),
 .setAttr (.loc 0) [105,110,112,117,116,115] (.list []),
 .setAttr (.loc 0) [111,117,116,112,117,116,115] (.list []),
 .setAttr (.loc 0) [99,101,108,108,115] (.list [])] }
def f_is_state_kind:Fn:={ np:=1,nl:=1,body:=[
 .ret (.bop false [(.cmp .eq (.loc 0) (.const (.str [102,108,111,112]))),(.cmp .eq (.loc 0) (.const (.str [108,97,116,99,104])))])] }
def f_Netlist_new_net:Fn:={ np:=1,nl:=2,body:=[
 .assign (.one 1) (.attr (.loc 0) [99,111,117,110,116]),
 .augAttr (.loc 0) [99,111,117,110,116] .add (.const (.int 1)),
 .ret (.loc 1)] }
def f_Netlist_new_nets:Fn:={ np:=2,nl:=2,body:=[
 .ret (.comp 1 (.one 0) true (.loc 1) (.elt (.meth (.free 0) 2 [])))] }
def f_Netlist_add_input:Fn:={ np:=3,nl:=4,body:=[
 .assign (.one 3) (.meth (.loc 0) 3 [(.loc 2)]),
 .expr (.bm .append (.attr (.loc 0) [105,110,112,117,116,115]) [(.tup [(.loc 1),(.bi .list [(.loc 3)])])]),
 .ret (.loc 3)] }
def f_Netlist_add_output:Fn:={ np:=3,nl:=3,body:=[
 .expr (.bm .append (.attr (.loc 0) [111,117,116,112,117,116,115]) [(.tup [(.loc 1),(.bi .list [(.loc 2)])])])] }
def f_Netlist_add_cell:Fn:={ np:=4,nl:=5,body:=[
 .assign (.one 4) (.meth (.loc 0) 2 []),
 .expr (.meth (.loc 0) 7 [(.loc 4),(.loc 1),(.loc 2),(.loc 3)]),
 .ret (.loc 4)] }
def f_Netlist_drive:Fn:={ np:=5,nl:=5,body:=[
 .expr (.bm .append (.attr (.loc 0) [99,101,108,108,115]) [(.tup [(.loc 2),(.loc 1),(.bi .tuple [(.loc 3)]),(.loc 4)])])] }
def f_Netlist_sources:Fn:={ np:=1,nl:=5,body:=[
 .assign (.one 1) (.list []),
 .for_ (.many [2,3]) false (.attr (.loc 0) [105,110,112,117,116,115]) [.expr (.bm .extend (.loc 1) [(.loc 3)])],
 .for_ (.one 4) false (.attr (.loc 0) [99,101,108,108,115]) [.ite (.call 1 [(.sub (.loc 4) (.const (.int 0)))]) [.expr (.bm .append (.loc 1) [(.sub (.loc 4) (.const (.int 1)))])] []],
 .ret (.loc 1)] }
def f_state_cells:Fn:={ np:=1,nl:=3,body:=[
 .assign (.one 1) (.list []),
 .for_ (.one 2) true (.bi .len [(.attr (.loc 0) [99,101,108,108,115])]) [.ite (.call 1 [(.sub (.sub (.attr (.loc 0) [99,101,108,108,115]) (.loc 2)) (.const (.int 0)))]) [.expr (.bm .append (.loc 1) [(.loc 2)])] []],
 .ret (.loc 1)] }
def f_drivers:Fn:={ np:=1,nl:=7,body:=[
 .assign (.one 1) (.dict [(.const (.int 0)),(.const (.bool true)),(.const (.int 1)),(.const (.bool true))]),
 .for_ (.many [2,3]) false (.attr (.loc 0) [105,110,112,117,116,115]) [.for_ (.one 4) false (.loc 3) [.ite (.cmp .in_ (.loc 4) (.loc 1)) [.fail] [],.setSub (.loc 1) (.loc 4) (.const (.bool true))]],
 .assign (.one 5) (.dict []),
 .for_ (.one 6) true (.bi .len [(.attr (.loc 0) [99,101,108,108,115])]) [.assign (.one 4) (.sub (.sub (.attr (.loc 0) [99,101,108,108,115]) (.loc 6)) (.const (.int 1))),.ite (.cmp .in_ (.loc 4) (.loc 1)) [.fail] [],.setSub (.loc 1) (.loc 4) (.const (.bool true)),.setSub (.loc 5) (.loc 4) (.loc 6)],
 .ret (.loc 5)] }
def f_ordered_cells:Fn:={ np:=2,nl:=11,body:=[
 .assign (.one 2) (.attr (.loc 0) [99,101,108,108,115]),
 .assign (.one 3) (.dict []),
 .assign (.one 4) (.dict []),
 .assign (.one 5) (.list []),
 .for_ (.one 6) true (.bi .len [(.loc 2)]) [.ite (.call 1 [(.sub (.sub (.loc 2) (.loc 6)) (.const (.int 0)))]) [.cont] [],.assign (.one 7) (.const (.int 0)),.for_ (.one 8) false (.sub (.sub (.loc 2) (.loc 6)) (.const (.int 2))) [.assign (.one 9) (.bm .get (.loc 1) [(.loc 8),(.neg (.const (.int 1)))]),.ite (.bop true [(.cmp .ge (.loc 9) (.const (.int 0))),(.not (.call 1 [(.sub (.sub (.loc 2) (.loc 9)) (.const (.int 0)))]))]) [.augLoc 7 .add (.const (.int 1)),.ite (.cmp .notIn (.loc 9) (.loc 4)) [.setSub (.loc 4) (.loc 9) (.list [])] [],.expr (.bm .append (.sub (.loc 4) (.loc 9)) [(.loc 6)])] []],.setSub (.loc 3) (.loc 6) (.loc 7),.ite (.cmp .eq (.loc 7) (.const (.int 0))) [.expr (.bm .append (.loc 5) [(.loc 6)])] []],
 .assign (.one 10) (.const (.int 0)),
 .while_ (.cmp .lt (.loc 10) (.bi .len [(.loc 5)])) [.for_ (.one 6) false (.bm .get (.loc 4) [(.sub (.loc 5) (.loc 10)),(.list [])]) [.augSub (.loc 3) (.loc 6) .sub (.const (.int 1)),.ite (.cmp .eq (.sub (.loc 3) (.loc 6)) (.const (.int 0))) [.expr (.bm .append (.loc 5) [(.loc 6)])] []],.augLoc 10 .add (.const (.int 1))],
 .ret (.loc 5)] }
def f_comb_order:Fn:={ np:=1,nl:=2,body:=[
 .assign (.one 1) (.call 11 [(.loc 0),(.call 10 [(.loc 0)])]),
 .ite (.cmp .lt (.bin .add (.bi .len [(.loc 1)]) (.bi .len [(.call 9 [(.loc 0)])])) (.bi .len [(.attr (.loc 0) [99,101,108,108,115])])) [.fail] [],
 .ret (.loc 1)] }
def f_row_number:Fn:={ np:=1,nl:=3,body:=[
 .assign (.one 1) (.const (.int 0)),
 .for_ (.one 2) true (.bi .len [(.loc 0)]) [.ite (.sub (.loc 0) (.loc 2)) [.augLoc 1 .add (.bin .shl (.const (.int 1)) (.loc 2))] []],
 .ret (.loc 1)] }
def f_full_table:Fn:={ np:=1,nl:=1,body:=[
 .ret (.bin .sub (.bin .shl (.const (.int 1)) (.bin .shl (.const (.int 1)) (.loc 0))) (.const (.int 1)))] }
def f_var_table:Fn:={ np:=2,nl:=3,body:=[
 .assign (.one 2) (.call 14 [(.loc 1)]),
 .ret (.bin .bxor (.loc 2) (.bin .fdiv (.loc 2) (.bin .add (.bin .shl (.const (.int 1)) (.bin .shl (.const (.int 1)) (.loc 0))) (.const (.int 1)))))] }
def f_cofactor:Fn:={ np:=4,nl:=6,body:=[
 .assign (.one 4) (.bin .band (.loc 0) (.call 15 [(.loc 1),(.loc 3)])),
 .ite (.cmp .eq (.loc 2) (.const (.int 1))) [.ret (.bin .bor (.loc 4) (.bin .shr (.loc 4) (.bin .shl (.const (.int 1)) (.loc 1))))] [],
 .assign (.one 5) (.bin .bxor (.loc 0) (.loc 4)),
 .ret (.bin .bor (.loc 5) (.bin .shl (.loc 5) (.bin .shl (.const (.int 1)) (.loc 1))))] }
def f_depends:Fn:={ np:=3,nl:=3,body:=[
 .ret (.cmp .ne (.call 16 [(.loc 0),(.loc 1),(.const (.int 0)),(.loc 2)]) (.call 16 [(.loc 0),(.loc 1),(.const (.int 1)),(.loc 2)]))] }
def f_support:Fn:={ np:=2,nl:=4,body:=[
 .assign (.one 2) (.list []),
 .for_ (.one 3) true (.loc 1) [.ite (.call 17 [(.loc 0),(.loc 3),(.loc 1)]) [.expr (.bm .append (.loc 2) [(.loc 3)])] []],
 .ret (.loc 2)] }
def f_spread:Fn:={ np:=2,nl:=4,body:=[
 .assign (.one 2) (.const (.int 0)),
 .for_ (.one 3) true (.bi .len [(.loc 1)]) [.augLoc 2 .bor (.bin .shl (.bin .band (.bin .shr (.loc 0) (.loc 3)) (.const (.int 1))) (.sub (.loc 1) (.loc 3)))],
 .ret (.loc 2)] }
def f_shrink:Fn:={ np:=2,nl:=5,body:=[
 .assign (.one 2) (.call 18 [(.loc 0),(.loc 1)]),
 .assign (.one 3) (.const (.int 0)),
 .for_ (.one 4) true (.bin .shl (.const (.int 1)) (.bi .len [(.loc 2)])) [.augLoc 3 .bor (.bin .shl (.bin .band (.bin .shr (.loc 0) (.call 19 [(.loc 4),(.loc 2)])) (.const (.int 1))) (.loc 4))],
 .ret (.tup [(.loc 3),(.loc 2)])] }
def f_final_net:Fn:={ np:=2,nl:=2,body:=[
 .while_ (.cmp .in_ (.loc 1) (.loc 0)) [.assign (.one 1) (.sub (.loc 0) (.loc 1))],
 .ret (.loc 1)] }
def f_rebuilt_cells:Fn:={ np:=3,nl:=10,body:=[
 .assign (.one 3) (.new [(.attr (.loc 0) [110,97,109,101])]),
 .setAttr (.loc 3) [99,111,117,110,116] (.attr (.loc 0) [99,111,117,110,116]),
 .for_ (.many [4,5]) false (.attr (.loc 0) [105,110,112,117,116,115]) [.expr (.bm .append (.attr (.loc 3) [105,110,112,117,116,115]) [(.tup [(.loc 4),(.bi .list [(.loc 5)])])])],
 .for_ (.many [6,7,8,9]) false (.loc 1) [.ite (.cmp .notIn (.loc 7) (.loc 2)) [.expr (.meth (.loc 3) 7 [(.loc 7),(.loc 6),(.comp 1 (.one 0) false (.loc 8) (.elt (.call 21 [(.free 2),(.loc 0)]))),(.loc 9)])] []],
 .for_ (.many [4,5]) false (.attr (.loc 0) [111,117,116,112,117,116,115]) [.expr (.meth (.loc 3) 5 [(.loc 4),(.comp 1 (.one 0) false (.loc 5) (.elt (.call 21 [(.free 2),(.loc 0)])))])],
 .ret (.loc 3)] }
def f_rebuilt:Fn:={ np:=2,nl:=2,body:=[
 .ret (.call 22 [(.loc 0),(.attr (.loc 0) [99,101,108,108,115]),(.loc 1)])] }
def f_and_form:Fn:={ np:=3,nl:=3,body:=[
 .ite (.bop false [(.cmp .eq (.loc 0) (.const (.int 0))),(.cmp .eq (.loc 1) (.const (.int 0))),(.loc 2)]) [.ret (.tup [(.const (.str [98,117,102])),(.tup [(.const (.int 0))])])] [],
 .ite (.bop false [(.cmp .eq (.loc 0) (.const (.int 1))),(.cmp .eq (.loc 0) (.loc 1))]) [.ret (.tup [(.const (.str [98,117,102])),(.tup [(.loc 1)])])] [],
 .ite (.cmp .eq (.loc 1) (.const (.int 1))) [.ret (.tup [(.const (.str [98,117,102])),(.tup [(.loc 0)])])] [],
 .ret (.tup [(.const (.str [97,110,100])),(.tup [(.loc 0),(.loc 1)])])] }
def f_or_form:Fn:={ np:=3,nl:=3,body:=[
 .ite (.bop false [(.cmp .eq (.loc 0) (.const (.int 1))),(.cmp .eq (.loc 1) (.const (.int 1))),(.loc 2)]) [.ret (.tup [(.const (.str [98,117,102])),(.tup [(.const (.int 1))])])] [],
 .ite (.bop false [(.cmp .eq (.loc 0) (.const (.int 0))),(.cmp .eq (.loc 0) (.loc 1))]) [.ret (.tup [(.const (.str [98,117,102])),(.tup [(.loc 1)])])] [],
 .ite (.cmp .eq (.loc 1) (.const (.int 0))) [.ret (.tup [(.const (.str [98,117,102])),(.tup [(.loc 0)])])] [],
 .ret (.tup [(.const (.str [111,114])),(.tup [(.loc 0),(.loc 1)])])] }
def f_xor_form:Fn:={ np:=3,nl:=3,body:=[
 .ite (.cmp .eq (.loc 0) (.loc 1)) [.ret (.tup [(.const (.str [98,117,102])),(.tup [(.const (.int 0))])])] [],
 .ite (.loc 2) [.ret (.tup [(.const (.str [98,117,102])),(.tup [(.const (.int 1))])])] [],
 .ite (.cmp .eq (.loc 0) (.const (.int 0))) [.ret (.tup [(.const (.str [98,117,102])),(.tup [(.loc 1)])])] [],
 .ite (.cmp .eq (.loc 1) (.const (.int 0))) [.ret (.tup [(.const (.str [98,117,102])),(.tup [(.loc 0)])])] [],
 .ite (.cmp .eq (.loc 0) (.const (.int 1))) [.ret (.tup [(.const (.str [110,111,116])),(.tup [(.loc 1)])])] [],
 .ite (.cmp .eq (.loc 1) (.const (.int 1))) [.ret (.tup [(.const (.str [110,111,116])),(.tup [(.loc 0)])])] [],
 .ret (.tup [(.const (.str [120,111,114])),(.tup [(.loc 0),(.loc 1)])])] }
def f_turned_form:Fn:={ np:=1,nl:=3,body:=[
 .assign (.many [1,2]) (.loc 0),
 .ite (.cmp .eq (.loc 1) (.const (.str [98,117,102]))) [.ite (.bop false [(.cmp .eq (.sub (.loc 2) (.const (.int 0))) (.const (.int 0))),(.cmp .eq (.sub (.loc 2) (.const (.int 0))) (.const (.int 1)))]) [.ret (.tup [(.const (.str [98,117,102])),(.tup [(.bin .sub (.const (.int 1)) (.sub (.loc 2) (.const (.int 0))))])])] [],.ret (.tup [(.const (.str [110,111,116])),(.loc 2)])] [],
 .ite (.cmp .eq (.loc 1) (.const (.str [110,111,116]))) [.ret (.tup [(.const (.str [98,117,102])),(.loc 2)])] [],
 .ite (.cmp .eq (.loc 1) (.const (.str [97,110,100]))) [.ret (.tup [(.const (.str [110,97,110,100])),(.loc 2)])] [],
 .ite (.cmp .eq (.loc 1) (.const (.str [111,114]))) [.ret (.tup [(.const (.str [110,111,114])),(.loc 2)])] [],
 .ret (.tup [(.const (.str [120,110,111,114])),(.loc 2)])] }
def f_gate_form:Fn:={ np:=4,nl:=4,body:=[
 .ite (.cmp .eq (.loc 0) (.const (.str [97,110,100]))) [.ret (.call 24 [(.loc 1),(.loc 2),(.loc 3)])] [],
 .ite (.cmp .eq (.loc 0) (.const (.str [110,97,110,100]))) [.ret (.call 27 [(.call 24 [(.loc 1),(.loc 2),(.loc 3)])])] [],
 .ite (.cmp .eq (.loc 0) (.const (.str [111,114]))) [.ret (.call 25 [(.loc 1),(.loc 2),(.loc 3)])] [],
 .ite (.cmp .eq (.loc 0) (.const (.str [110,111,114]))) [.ret (.call 27 [(.call 25 [(.loc 1),(.loc 2),(.loc 3)])])] [],
 .ite (.cmp .eq (.loc 0) (.const (.str [120,111,114]))) [.ret (.call 26 [(.loc 1),(.loc 2),(.loc 3)])] [],
 .ret (.call 27 [(.call 26 [(.loc 1),(.loc 2),(.loc 3)])])] }
def f_select_form:Fn:={ np:=3,nl:=3,body:=[
 .ite (.bop false [(.cmp .eq (.loc 0) (.const (.int 0))),(.cmp .eq (.loc 1) (.loc 2))]) [.ret (.tup [(.const (.str [98,117,102])),(.tup [(.loc 1)])])] [],
 .ite (.cmp .eq (.loc 0) (.const (.int 1))) [.ret (.tup [(.const (.str [98,117,102])),(.tup [(.loc 2)])])] [],
 .ite (.bop true [(.cmp .eq (.loc 1) (.const (.int 0))),(.cmp .eq (.loc 2) (.const (.int 1)))]) [.ret (.tup [(.const (.str [98,117,102])),(.tup [(.loc 0)])])] [],
 .ite (.bop true [(.cmp .eq (.loc 1) (.const (.int 1))),(.cmp .eq (.loc 2) (.const (.int 0)))]) [.ret (.tup [(.const (.str [110,111,116])),(.tup [(.loc 0)])])] [],
 .ret (.tup [(.const (.str [109,117,120])),(.tup [(.loc 0),(.loc 1),(.loc 2)])])] }
def f_table_bit:Fn:={ np:=3,nl:=3,body:=[
 .ite (.bop false [(.cmp .eq (.loc 0) (.const (.int 0))),(.cmp .eq (.loc 0) (.const (.int 1)))]) [.ret (.loc 0)] [],
 .ret (.bin .band (.bin .shr (.loc 2) (.bm .index (.loc 1) [(.loc 0)])) (.const (.int 1)))] }
def f_table_over:Fn:={ np:=3,nl:=6,body:=[
 .assign (.one 3) (.const (.int 0)),
 .for_ (.one 4) true (.bin .shl (.const (.int 1)) (.bi .len [(.loc 2)])) [.assign (.one 5) (.comp 1 (.one 0) false (.loc 1) (.elt (.call 30 [(.loc 0),(.free 2),(.free 4)]))),.ite (.bin .band (.bin .shr (.loc 0) (.call 13 [(.loc 5)])) (.const (.int 1))) [.augLoc 3 .add (.bin .shl (.const (.int 1)) (.loc 4))] []],
 .ret (.loc 3)] }
def f_table_form:Fn:={ np:=2,nl:=7,body:=[
 .assign (.one 2) (.list []),
 .for_ (.one 3) false (.loc 1) [.ite (.bop true [(.cmp .gt (.loc 3) (.const (.int 1))),(.cmp .notIn (.loc 3) (.loc 2))]) [.expr (.bm .append (.loc 2) [(.loc 3)])] []],
 .assign (.many [4,5]) (.call 20 [(.call 31 [(.loc 0),(.loc 1),(.loc 2)]),(.bi .len [(.loc 2)])]),
 .assign (.one 6) (.bi .tuple [(.comp 1 (.one 0) false (.loc 5) (.elt (.sub (.free 2) (.loc 0))))]),
 .ite (.cmp .eq (.bi .len [(.loc 6)]) (.const (.int 0))) [.ret (.tup [(.const (.str [98,117,102])),(.tup [(.bin .band (.loc 4) (.const (.int 1)))]),(.const .none)])] [],
 .ite (.cmp .eq (.bi .len [(.loc 6)]) (.const (.int 1))) [.ret (.tup [(.ite (.cmp .eq (.loc 4) (.const (.int 2))) (.const (.str [98,117,102])) (.const (.str [110,111,116]))),(.loc 6),(.const .none)])] [],
 .ret (.tup [(.const (.str [108,117,116])),(.loc 6),(.loc 4)])] }
def f_are_opposite:Fn:={ np:=3,nl:=3,body:=[
 .ret (.bop false [(.cmp .eq (.bm .get (.loc 0) [(.loc 1),(.neg (.const (.int 1)))]) (.loc 2)),(.cmp .eq (.bm .get (.loc 0) [(.loc 2),(.neg (.const (.int 1)))]) (.loc 1))])] }
def f_library_form:Fn:={ np:=2,nl:=5,body:=[
 .assign (.many [2,3,4]) (.call 32 [(.sub (.loc 1) (.const (.int 1))),(.loc 0)]),
 .ite (.cmp .eq (.loc 2) (.const (.str [108,117,116]))) [.ret (.tup [(.const (.str [99,101,108,108])),(.loc 0),(.loc 1)])] [],
 .ret (.tup [(.loc 2),(.loc 3),(.const .none)])] }
def f_simple_form:Fn:={ np:=3,nl:=5,body:=[
 .assign (.one 3) (.sub (.loc 0) (.const (.int 0))),
 .assign (.one 4) (.const .none),
 .ite (.cmp .eq (.loc 3) (.const (.str [108,117,116]))) [.assign (.many [3,1,4]) (.call 32 [(.sub (.loc 0) (.const (.int 3))),(.loc 1)])] [.ite (.cmp .eq (.loc 3) (.const (.str [99,101,108,108]))) [.assign (.many [3,1,4]) (.call 34 [(.loc 1),(.sub (.loc 0) (.const (.int 3)))])] [.ite (.cmp .eq (.loc 3) (.const (.str [109,117,120]))) [.assign (.many [3,1]) (.call 29 [(.sub (.loc 1) (.const (.int 0))),(.sub (.loc 1) (.const (.int 1))),(.sub (.loc 1) (.const (.int 2)))])] [.ite (.cmp .eq (.bi .len [(.loc 1)]) (.const (.int 2))) [.assign (.many [3,1]) (.call 28 [(.loc 3),(.sub (.loc 1) (.const (.int 0))),(.sub (.loc 1) (.const (.int 1))),(.call 33 [(.loc 2),(.sub (.loc 1) (.const (.int 0))),(.sub (.loc 1) (.const (.int 1)))])])] []]]],
 .ite (.cmp .eq (.loc 3) (.const (.str [110,111,116]))) [.ite (.bop false [(.cmp .eq (.sub (.loc 1) (.const (.int 0))) (.const (.int 0))),(.cmp .eq (.sub (.loc 1) (.const (.int 0))) (.const (.int 1)))]) [.ret (.tup [(.const (.str [98,117,102])),(.tup [(.bin .sub (.const (.int 1)) (.sub (.loc 1) (.const (.int 0))))]),(.const .none)])] [],.ite (.cmp .in_ (.sub (.loc 1) (.const (.int 0))) (.loc 2)) [.ret (.tup [(.const (.str [98,117,102])),(.tup [(.sub (.loc 2) (.sub (.loc 1) (.const (.int 0))))]),(.const .none)])] []] [],
 .ret (.tup [(.loc 3),(.loc 1),(.loc 4)])] }
def f_fold_constants:Fn:={ np:=1,nl:=10,body:=[
 .assign (.one 1) (.bi .list [(.attr (.loc 0) [99,101,108,108,115])]),
 .assign (.one 2) (.dict []),
 .assign (.one 3) (.dict []),
 .for_ (.one 4) false (.call 12 [(.loc 0)]) [.assign (.one 5) (.sub (.loc 1) (.loc 4)),.assign (.one 6) (.sub (.loc 5) (.const (.int 1))),.assign (.one 7) (.bi .tuple [(.comp 1 (.one 0) false (.sub (.loc 5) (.const (.int 2))) (.elt (.call 21 [(.free 2),(.loc 0)])))]),.assign (.many [8,7,9]) (.call 35 [(.loc 5),(.loc 7),(.loc 3)]),.ite (.cmp .eq (.loc 8) (.const (.str [98,117,102]))) [.setSub (.loc 2) (.loc 6) (.sub (.loc 7) (.const (.int 0)))] [.setSub (.loc 1) (.loc 4) (.tup [(.loc 8),(.loc 6),(.loc 7),(.loc 9)]),.ite (.cmp .eq (.loc 8) (.const (.str [110,111,116]))) [.setSub (.loc 3) (.loc 6) (.sub (.loc 7) (.const (.int 0))),.setSub (.loc 3) (.sub (.loc 7) (.const (.int 0))) (.loc 6)] []]],
 .ret (.call 22 [(.loc 0),(.loc 1),(.loc 2)])] }
def f_drop_buffers:Fn:={ np:=1,nl:=9,body:=[
 .assign (.one 1) (.dict []),
 .assign (.one 2) (.dict []),
 .for_ (.one 3) false (.call 12 [(.loc 0)]) [.assign (.many [4,5,6,7]) (.sub (.attr (.loc 0) [99,101,108,108,115]) (.loc 3)),.ite (.cmp .eq (.loc 4) (.const (.str [98,117,102]))) [.setSub (.loc 1) (.loc 5) (.call 21 [(.loc 1),(.sub (.loc 6) (.const (.int 0)))])] [.ite (.cmp .eq (.loc 4) (.const (.str [110,111,116]))) [.assign (.one 8) (.call 21 [(.loc 1),(.sub (.loc 6) (.const (.int 0)))]),.ite (.cmp .in_ (.loc 8) (.loc 2)) [.setSub (.loc 1) (.loc 5) (.sub (.loc 2) (.loc 8))] [.setSub (.loc 2) (.loc 5) (.loc 8)]] []]],
 .ret (.call 23 [(.loc 0),(.loc 1)])] }
def f_used_cells:Fn:={ np:=1,nl:=7,body:=[
 .assign (.one 1) (.call 10 [(.loc 0)]),
 .assign (.one 2) (.dict []),
 .assign (.one 3) (.list []),
 .for_ (.many [4,5]) false (.attr (.loc 0) [111,117,116,112,117,116,115]) [.expr (.bm .extend (.loc 3) [(.loc 5)])],
 .while_ (.loc 3) [.assign (.one 6) (.bm .get (.loc 1) [(.bm .pop (.loc 3) []),(.neg (.const (.int 1)))]),.ite (.bop true [(.cmp .ge (.loc 6) (.const (.int 0))),(.cmp .notIn (.loc 6) (.loc 2))]) [.setSub (.loc 2) (.loc 6) (.const (.bool true)),.expr (.bm .extend (.loc 3) [(.sub (.sub (.attr (.loc 0) [99,101,108,108,115]) (.loc 6)) (.const (.int 2)))])] []],
 .ret (.loc 2)] }
def f_drop_unused:Fn:={ np:=1,nl:=4,body:=[
 .assign (.one 1) (.call 38 [(.loc 0)]),
 .assign (.one 2) (.list []),
 .for_ (.one 3) true (.bi .len [(.attr (.loc 0) [99,101,108,108,115])]) [.ite (.cmp .in_ (.loc 3) (.loc 1)) [.expr (.bm .append (.loc 2) [(.sub (.attr (.loc 0) [99,101,108,108,115]) (.loc 3))])] []],
 .ret (.call 22 [(.loc 0),(.loc 2),(.dict [])])] }
def f_law_pick:Fn:={ np:=2,nl:=4,body:=[
 .ite (.cmp .eq (.sub (.loc 0) (.const (.int 2))) (.const (.int 0))) [.ite (.cmp .eq (.sub (.loc 0) (.const (.int 1))) (.bi .len [(.sub (.loc 0) (.const (.int 0)))])) [.setSub (.loc 0) (.const (.int 3)) (.bin .mod (.bin .mul (.sub (.loc 0) (.const (.int 3))) (.const (.int 48271))) (.const (.int 2147483647))),.ret (.bin .mod (.bin .fdiv (.sub (.loc 0) (.const (.int 3))) (.const (.int 7))) (.loc 1))] [],.assign (.one 2) (.sub (.sub (.loc 0) (.const (.int 0))) (.sub (.loc 0) (.const (.int 1)))),.setSub (.loc 0) (.const (.int 1)) (.bin .add (.sub (.loc 0) (.const (.int 1))) (.const (.int 1))),.setSub (.loc 0) (.const (.int 2)) (.ite (.cmp .ge (.loc 2) (.const (.int 0))) (.loc 2) (.neg (.loc 2)))] [],
 .assign (.one 3) (.bin .mod (.sub (.loc 0) (.const (.int 2))) (.loc 1)),
 .setSub (.loc 0) (.const (.int 2)) (.bin .fdiv (.sub (.loc 0) (.const (.int 2))) (.loc 1)),
 .ret (.loc 3)] }
def f_law_table:Fn:={ np:=2,nl:=2,body:=[
 .ite (.cmp .eq (.loc 0) (.const (.str [108,117,116]))) [.ret (.loc 1)] [],
 .ite (.cmp .eq (.loc 0) (.const (.str [99,101,108,108]))) [.ret (.sub (.loc 1) (.const (.int 1)))] [],
 .ret (.sub (.dict [(.const (.str [98,117,102])),(.const (.int 2)),(.const (.str [110,111,116])),(.const (.int 1)),(.const (.str [97,110,100])),(.const (.int 8)),(.const (.str [111,114])),(.const (.int 14)),(.const (.str [120,111,114])),(.const (.int 6)),(.const (.str [110,97,110,100])),(.const (.int 7)),(.const (.str [110,111,114])),(.const (.int 1)),(.const (.str [120,110,111,114])),(.const (.int 9)),(.const (.str [109,117,120])),(.const (.int 228))]) (.loc 0))] }
def f_law_near:Fn:={ np:=2,nl:=2,body:=[
 .ite (.cmp .eq (.call 40 [(.loc 0),(.const (.int 3))]) (.const (.int 0))) [.ret (.sub (.loc 1) (.call 40 [(.loc 0),(.bi .len [(.loc 1)])]))] [],
 .ret (.sub (.loc 1) (.bin .sub (.neg (.const (.int 1))) (.call 40 [(.loc 0),(.bi .min2 [(.bi .len [(.loc 1)]),(.const (.int 6))])])))] }
def f_law_netlist:Fn:={ np:=4,nl:=16,body:=[
 .assign (.one 4) (.new [(.const (.str [109]))]),
 .assign (.one 5) (.bin .add (.bin .add (.list [(.const (.int 0)),(.const (.int 1))]) (.meth (.loc 4) 4 [(.const (.str [97])),(.bin .add (.const (.int 1)) (.call 40 [(.loc 0),(.const (.int 2))]))])) (.meth (.loc 4) 4 [(.const (.str [98])),(.bin .add (.const (.int 1)) (.call 40 [(.loc 0),(.const (.int 2))]))])),
 .assign (.one 6) (.meth (.loc 4) 3 [(.call 40 [(.loc 0),(.bin .add (.loc 2) (.const (.int 1)))])]),
 .augLoc 5 .add (.loc 6),
 .for_ (.one 7) true (.call 40 [(.loc 0),(.bin .add (.loc 1) (.const (.int 1)))]) [.assign (.one 8) (.sub (.loc 3) (.call 40 [(.loc 0),(.bi .len [(.loc 3)])])),.assign (.one 9) (.bm .get (.dict [(.const (.str [110,111,116])),(.const (.int 1)),(.const (.str [98,117,102])),(.const (.int 1)),(.const (.str [109,117,120])),(.const (.int 3))]) [(.loc 8),(.const (.int 2))]),.assign (.one 10) (.const .none),.ite (.cmp .in_ (.loc 8) (.list [(.const (.str [108,117,116])),(.const (.str [99,101,108,108]))])) [.assign (.one 9) (.bin .add (.const (.int 1)) (.call 40 [(.loc 0),(.const (.int 3))])),.assign (.one 10) (.call 40 [(.loc 0),(.bin .pow (.const (.int 2)) (.bin .pow (.const (.int 2)) (.loc 9)))]),.assign (.one 10) (.ite (.cmp .eq (.loc 8) (.const (.str [99,101,108,108]))) (.tup [(.bin .add (.const (.str [67])) (.bi .str [(.loc 10)])),(.loc 10)]) (.loc 10))] [],.expr (.bm .append (.loc 5) [(.meth (.loc 4) 6 [(.loc 8),(.comp 1 (.one 0) true (.loc 9) (.elt (.call 42 [(.free 0),(.free 5)]))),(.loc 10)])])],
 .for_ (.one 11) true (.bi .len [(.loc 6)]) [.assign (.one 12) (.call 40 [(.loc 0),(.const (.int 2))]),.assign (.one 13) (.call 40 [(.loc 0),(.const (.int 2))]),.assign (.one 14) (.ite (.cmp .eq (.call 40 [(.loc 0),(.const (.int 3))]) (.const (.int 2))) (.call 42 [(.loc 0),(.loc 5)]) (.const (.int 2))),.assign (.one 15) (.bin .add (.list [(.loc 14),(.call 42 [(.loc 0),(.loc 5)])]) (.comp 1 (.one 0) true (.const (.int 2)) (.elt (.ite (.cmp .eq (.call 40 [(.free 0),(.const (.int 3))]) (.const (.int 2))) (.call 42 [(.free 0),(.free 5)]) (.const (.int 0)))))),.ite (.cmp .eq (.call 40 [(.loc 0),(.const (.int 4))]) (.const (.int 3))) [.expr (.meth (.loc 4) 7 [(.sub (.loc 6) (.loc 11)),(.const (.str [108,97,116,99,104])),(.loc 15),(.tup [(.bin .add (.const (.str [113])) (.bi .str [(.loc 11)])),(.loc 13)])])] [.expr (.meth (.loc 4) 7 [(.sub (.loc 6) (.loc 11)),(.const (.str [102,108,111,112])),(.loc 15),(.tup [(.loc 12),(.bin .add (.const (.str [113])) (.bi .str [(.loc 11)])),(.loc 13)])])]],
 .expr (.meth (.loc 4) 5 [(.const (.str [121])),(.comp 1 (.one 0) true (.bin .add (.const (.int 1)) (.call 40 [(.loc 0),(.const (.int 3))])) (.elt (.call 42 [(.free 0),(.free 5)])))]),
 .expr (.meth (.loc 4) 5 [(.const (.str [122])),(.list [(.call 42 [(.loc 0),(.loc 5)])])]),
 .ret (.loc 4)] }
def f_law_states:Fn:={ np:=1,nl:=1,body:=[
 .ret (.comp 1 (.one 0) false (.attr (.loc 0) [99,101,108,108,115]) (.if_ (.cmp .in_ (.sub (.loc 0) (.const (.int 0))) (.list [(.const (.str [102,108,111,112])),(.const (.str [108,97,116,99,104]))])) (.elt (.loc 0))))] }
def f_law_patterns:Fn:={ np:=1,nl:=5,body:=[
 .assign (.one 1) (.comp 3 (.many [0,1]) false (.attr (.loc 0) [105,110,112,117,116,115]) (.for_ (.one 2) true (.bi .len [(.loc 1)]) (.elt (.tup [(.loc 0),(.loc 2)])))),
 .augLoc 1 .add (.comp 1 (.one 0) false (.call 44 [(.loc 0)]) (.elt (.sub (.sub (.loc 0) (.const (.int 3))) (.neg (.const (.int 2)))))),
 .assign (.one 2) (.bin .pow (.const (.int 2)) (.bi .len [(.loc 1)])),
 .assign (.one 3) (.dict []),
 .for_ (.one 4) true (.bi .len [(.loc 1)]) [.setSub (.loc 3) (.sub (.loc 1) (.loc 4)) (.bi .sum [(.comp 1 (.one 0) true (.loc 2) (.if_ (.cmp .eq (.bin .mod (.bin .fdiv (.loc 0) (.bin .pow (.const (.int 2)) (.free 4))) (.const (.int 2))) (.const (.int 1))) (.elt (.bin .pow (.const (.int 2)) (.loc 0)))))])],
 .ret (.tup [(.loc 3),(.bin .sub (.bin .pow (.const (.int 2)) (.loc 2)) (.const (.int 1)))])] }
def f_law_word:Fn:={ np:=3,nl:=7,body:=[
 .assign (.one 3) (.const (.int 0)),
 .for_ (.one 4) true (.bin .pow (.const (.int 2)) (.bi .len [(.loc 1)])) [.ite (.cmp .eq (.bin .mod (.bin .fdiv (.loc 0) (.bin .pow (.const (.int 2)) (.loc 4))) (.const (.int 2))) (.const (.int 1))) [.assign (.one 5) (.loc 2),.for_ (.one 6) true (.bi .len [(.loc 1)]) [.assign (.one 5) (.bin .band (.loc 5) (.ite (.cmp .eq (.bin .mod (.bin .fdiv (.loc 4) (.bin .pow (.const (.int 2)) (.loc 6))) (.const (.int 2))) (.const (.int 1))) (.sub (.loc 1) (.loc 6)) (.bin .sub (.loc 2) (.sub (.loc 1) (.loc 6)))))],.assign (.one 3) (.bin .bor (.loc 3) (.loc 5))] []],
 .ret (.loc 3)] }
def f_law_words:Fn:={ np:=3,nl:=11,body:=[
 .assign (.one 3) (.dict [(.const (.int 0)),(.const (.int 0)),(.const (.int 1)),(.loc 2)]),
 .for_ (.many [4,5]) false (.attr (.loc 0) [105,110,112,117,116,115]) [.for_ (.one 6) true (.bi .len [(.loc 5)]) [.setSub (.loc 3) (.sub (.loc 5) (.loc 6)) (.sub (.loc 1) (.tup [(.loc 4),(.loc 6)]))]],
 .for_ (.one 7) false (.call 44 [(.loc 0)]) [.setSub (.loc 3) (.sub (.loc 7) (.const (.int 1))) (.sub (.loc 1) (.sub (.sub (.loc 7) (.const (.int 3))) (.neg (.const (.int 2)))))],
 .assign (.one 8) (.comp 1 (.one 0) false (.attr (.loc 0) [99,101,108,108,115]) (.if_ (.cmp .notIn (.sub (.loc 0) (.const (.int 0))) (.list [(.const (.str [102,108,111,112])),(.const (.str [108,97,116,99,104]))])) (.elt (.loc 0)))),
 .for_ (.one 9) true (.bi .len [(.loc 8)]) [.assign (.one 10) (.list []),.for_ (.one 7) false (.loc 8) [.ite (.cmp .in_ (.const (.bool false)) (.comp 1 (.one 0) false (.sub (.loc 7) (.const (.int 2))) (.elt (.cmp .in_ (.loc 0) (.free 3))))) [.expr (.bm .append (.loc 10) [(.loc 7)])] [.setSub (.loc 3) (.sub (.loc 7) (.const (.int 1))) (.call 46 [(.call 41 [(.sub (.loc 7) (.const (.int 0))),(.sub (.loc 7) (.const (.int 3)))]),(.comp 1 (.one 0) false (.sub (.loc 7) (.const (.int 2))) (.elt (.sub (.free 3) (.loc 0)))),(.loc 2)])]],.assign (.one 8) (.loc 10)],
 .ret (.loc 3)] }
def f_law_sinks:Fn:={ np:=3,nl:=7,body:=[
 .assign (.one 3) (.call 47 [(.loc 0),(.loc 1),(.loc 2)]),
 .assign (.one 4) (.comp 2 (.many [0,1]) false (.attr (.loc 0) [111,117,116,112,117,116,115]) (.elt (.tup [(.loc 0),(.comp 1 (.one 0) false (.loc 1) (.elt (.bm .get (.free 3) [(.loc 0),(.neg (.const (.int 1)))])))]))),
 .assign (.one 5) (.dict []),
 .for_ (.one 6) false (.call 44 [(.loc 0)]) [.setSub (.loc 5) (.sub (.sub (.loc 6) (.const (.int 3))) (.neg (.const (.int 2)))) (.tup [(.sub (.loc 6) (.const (.int 0))),(.sub (.loc 6) (.const (.int 3))),(.comp 1 (.one 0) false (.sub (.loc 6) (.const (.int 2))) (.elt (.bm .get (.free 3) [(.loc 0),(.neg (.const (.int 1)))])))])],
 .ret (.tup [(.loc 4),(.loc 5)])] }
def f_law_kept:Fn:={ np:=4,nl:=8,body:=[
 .assign (.many [4,5]) (.call 48 [(.loc 0),(.loc 2),(.loc 3)]),
 .assign (.many [6,7]) (.call 48 [(.loc 1),(.loc 2),(.loc 3)]),
 .ite (.bop false [(.cmp .ne (.loc 6) (.loc 4)),(.cmp .ne (.attr (.loc 1) [105,110,112,117,116,115]) (.attr (.loc 0) [105,110,112,117,116,115])),(.cmp .ne (.attr (.loc 1) [110,97,109,101]) (.attr (.loc 0) [110,97,109,101]))]) [.ret (.const (.bool false))] [],
 .ret (.cmp .notIn (.const (.bool false)) (.comp 1 (.one 0) false (.loc 7) (.elt (.bop true [(.cmp .in_ (.loc 0) (.free 5)),(.cmp .eq (.sub (.free 7) (.loc 0)) (.sub (.free 5) (.loc 0)))]))))] }
def f_law_foldable:Fn:={ np:=1,nl:=5,body:=[
 .assign (.many [1,2,3,4]) (.loc 0),
 .ite (.cmp .in_ (.loc 1) (.list [(.const (.str [108,117,116])),(.const (.str [99,101,108,108])),(.const (.str [102,108,111,112])),(.const (.str [108,97,116,99,104]))])) [.ret (.bop true [(.cmp .eq (.loc 1) (.const (.str [108,117,116]))),(.bop false [(.cmp .lt (.bi .lenset [(.loc 3)]) (.bi .len [(.loc 3)])),(.cmp .lt (.bi .min1 [(.loc 3)]) (.const (.int 2))),(.cmp .lt (.bi .len [(.loc 3)]) (.const (.int 2)))])])] [],
 .ite (.cmp .eq (.loc 1) (.const (.str [109,117,120]))) [.ret (.bop false [(.cmp .lt (.sub (.loc 3) (.const (.int 0))) (.const (.int 2))),(.cmp .eq (.sub (.loc 3) (.const (.int 1))) (.sub (.loc 3) (.const (.int 2)))),(.bop true [(.cmp .lt (.sub (.loc 3) (.const (.int 1))) (.const (.int 2))),(.cmp .lt (.sub (.loc 3) (.const (.int 2))) (.const (.int 2)))])])] [],
 .ret (.bop false [(.cmp .eq (.loc 1) (.const (.str [98,117,102]))),(.cmp .lt (.bi .min1 [(.loc 3)]) (.const (.int 2))),(.bop true [(.cmp .eq (.bi .len [(.loc 3)]) (.const (.int 2))),(.cmp .eq (.sub (.loc 3) (.const (.int 0))) (.sub (.loc 3) (.const (.int 1))))])])] }
def f_law_used:Fn:={ np:=1,nl:=4,body:=[
 .assign (.one 1) (.comp 3 (.many [0,1]) false (.attr (.loc 0) [111,117,116,112,117,116,115]) (.for_ (.one 2) false (.loc 1) (.elt (.loc 2)))),
 .for_ (.one 2) true (.bi .len [(.attr (.loc 0) [99,101,108,108,115])]) [.for_ (.one 3) false (.attr (.loc 0) [99,101,108,108,115]) [.ite (.cmp .in_ (.sub (.loc 3) (.const (.int 1))) (.loc 1)) [.assign (.one 1) (.bin .add (.loc 1) (.comp 1 (.one 0) false (.sub (.loc 3) (.const (.int 2))) (.if_ (.cmp .notIn (.loc 0) (.free 1)) (.elt (.loc 0)))))] []]],
 .ret (.comp 1 (.one 0) false (.attr (.loc 0) [99,101,108,108,115]) (.if_ (.cmp .in_ (.sub (.loc 0) (.const (.int 1))) (.free 1)) (.elt (.loc 0))))] }
def f_law:Fn:={ np:=1,nl:=13,body:=[
 .assign (.one 1) (.slice (.loc 0) 63),
 .assign (.one 2) (.list [(.loc 1),(.const (.int 0)),(.const (.int 0)),(.bin .mul (.bin .mod (.bi .sum [(.loc 1)]) (.const (.int 100003))) (.const (.int 7))),(.const (.int 0))]),
 .assign (.one 3) (.call 43 [(.loc 2),(.const (.int 10)),(.const (.int 2)),(.list [(.const (.str [97,110,100])),(.const (.str [110,111,116])),(.const (.str [109,117,120])),(.const (.str [120,111,114])),(.const (.str [111,114])),(.const (.str [98,117,102])),(.const (.str [108,117,116])),(.const (.str [110,97,110,100])),(.const (.str [110,111,114])),(.const (.str [120,110,111,114])),(.const (.str [99,101,108,108]))])]),
 .assign (.one 4) (.list [(.bi .list [(.attr (.loc 3) [99,101,108,108,115])]),(.comp 2 (.many [0,1]) false (.bin .add (.attr (.loc 3) [105,110,112,117,116,115]) (.attr (.loc 3) [111,117,116,112,117,116,115])) (.elt (.tup [(.loc 0),(.bi .list [(.loc 1)])]))),(.attr (.loc 3) [99,111,117,110,116])]),
 .assign (.many [5,6]) (.call 45 [(.loc 3)]),
 .assign (.one 7) (.call 36 [(.loc 3)]),
 .assign (.one 8) (.call 37 [(.loc 3)]),
 .assign (.one 9) (.call 39 [(.loc 3)]),
 .for_ (.one 10) false (.list [(.loc 7),(.loc 8),(.loc 9)]) [.ite (.not (.call 49 [(.loc 3),(.loc 10),(.loc 5),(.loc 6)])) [.ret (.const (.bool false))] []],
 .assign (.one 11) (.comp 1 (.one 0) false (.call 44 [(.loc 3)]) (.elt (.sub (.sub (.loc 0) (.const (.int 3))) (.neg (.const (.int 2)))))),
 .ite (.bop false [(.cmp .ne (.comp 1 (.one 0) false (.call 44 [(.loc 7)]) (.elt (.sub (.sub (.loc 0) (.const (.int 3))) (.neg (.const (.int 2)))))) (.loc 11)),(.cmp .ne (.comp 1 (.one 0) false (.call 44 [(.loc 8)]) (.elt (.sub (.sub (.loc 0) (.const (.int 3))) (.neg (.const (.int 2)))))) (.loc 11))]) [.ret (.const (.bool false))] [],
 .ite (.bop false [(.cmp .in_ (.const (.bool true)) (.comp 1 (.one 0) false (.attr (.loc 7) [99,101,108,108,115]) (.elt (.call 50 [(.loc 0)])))),(.cmp .in_ (.const (.str [98,117,102])) (.comp 1 (.one 0) false (.attr (.loc 8) [99,101,108,108,115]) (.elt (.sub (.loc 0) (.const (.int 0))))))]) [.ret (.const (.bool false))] [],
 .ite (.cmp .ne (.attr (.loc 9) [99,101,108,108,115]) (.call 51 [(.loc 3)])) [.ret (.const (.bool false))] [],
 .assign (.one 12) (.call 39 [(.call 37 [(.loc 7)])]),
 .ite (.bop false [(.not (.call 49 [(.loc 3),(.loc 12),(.loc 5),(.loc 6)])),(.cmp .ne (.attr (.loc 12) [99,101,108,108,115]) (.call 51 [(.loc 12)]))]) [.ret (.const (.bool false))] [],
 .ret (.cmp .eq (.loc 4) (.list [(.attr (.loc 3) [99,101,108,108,115]),(.comp 2 (.many [0,1]) false (.bin .add (.attr (.loc 3) [105,110,112,117,116,115]) (.attr (.loc 3) [111,117,116,112,117,116,115])) (.elt (.tup [(.loc 0),(.bi .list [(.loc 1)])]))),(.attr (.loc 3) [99,111,117,110,116])]))] }
def P:Nat→Option Fn
 | 0=>some f_Netlist_init
 | 1=>some f_is_state_kind
 | 2=>some f_Netlist_new_net
 | 3=>some f_Netlist_new_nets
 | 4=>some f_Netlist_add_input
 | 5=>some f_Netlist_add_output
 | 6=>some f_Netlist_add_cell
 | 7=>some f_Netlist_drive
 | 8=>some f_Netlist_sources
 | 9=>some f_state_cells
 | 10=>some f_drivers
 | 11=>some f_ordered_cells
 | 12=>some f_comb_order
 | 13=>some f_row_number
 | 14=>some f_full_table
 | 15=>some f_var_table
 | 16=>some f_cofactor
 | 17=>some f_depends
 | 18=>some f_support
 | 19=>some f_spread
 | 20=>some f_shrink
 | 21=>some f_final_net
 | 22=>some f_rebuilt_cells
 | 23=>some f_rebuilt
 | 24=>some f_and_form
 | 25=>some f_or_form
 | 26=>some f_xor_form
 | 27=>some f_turned_form
 | 28=>some f_gate_form
 | 29=>some f_select_form
 | 30=>some f_table_bit
 | 31=>some f_table_over
 | 32=>some f_table_form
 | 33=>some f_are_opposite
 | 34=>some f_library_form
 | 35=>some f_simple_form
 | 36=>some f_fold_constants
 | 37=>some f_drop_buffers
 | 38=>some f_used_cells
 | 39=>some f_drop_unused
 | 40=>some f_law_pick
 | 41=>some f_law_table
 | 42=>some f_law_near
 | 43=>some f_law_netlist
 | 44=>some f_law_states
 | 45=>some f_law_patterns
 | 46=>some f_law_word
 | 47=>some f_law_words
 | 48=>some f_law_sinks
 | 49=>some f_law_kept
 | 50=>some f_law_foldable
 | 51=>some f_law_used
 | 52=>some f_law
 | _=> .none
section
open List
theorem QL:(∀ (α β:Type) (a:Option α) (f:α→Option β),(a >>= f)=a.bind f)∧(∀ (α β:Type) (a:α) (f:α→Option β),Option.bind (some a) f=f a)∧(∀ (α β:Type) (f:α→Option β),Option.bind none f=none)∧(∀ (α β:Type) (a:α) (f:α→β),Option.map f (some a)=some (f a))∧(∀ (α β:Type) (f:α→β),Option.map f none=none)∧(∀ (α:Type) (a:α),(pure a:Option α)=some a)∧
 (∀ (α β:Type) (f:α→β) (a:α) (l:List α),(a::l).map f=f a::l.map f)∧(∀ (α β:Type) (f:α→β),([]:List α).map f=[])∧(∀ (α:Type) (a:α) (l m:List α),(a::l)++m=a::(l++m))∧(∀ (α:Type) (l:List α),[]++l=l)∧(∀ (α:Type) (n:Nat) (a:α),List.replicate (n+1) a=a::List.replicate n a)∧(∀ (α:Type) (a:α),List.replicate 0 a=[])∧
 (∀ (α:Type) (a:α) (l:List α),(a::l)[0]? =some a)∧(∀ (α:Type) (a:α) (l:List α) (i:Nat),(a::l)[i+1]? =l[i]?)∧(∀ (α:Type) (a b:α) (l:List α),(a::l).set 0 b=b::l)∧(∀ (α:Type) (a b:α) (l:List α) (i:Nat),(a::l).set (i+1) b=a::l.set i b)∧(∀ (α:Type) (a:α) (l:List α),(a::l).length=l.length+1)∧(∀ (α:Type),([]:List α).length=0)∧(∀ (α:Type),([]:List α).isEmpty=true)∧(∀ (α:Type) (a:α) (l:List α),(a::l).isEmpty=false)∧(∀ n:Nat,0+n=n)∧(∀ (α:Type) (i:Decidable True) (a b:α),@ite α True i a b=a)∧(∀ (α:Type) (i:Decidable False) (a b:α),@ite α False i a b=b)∧((false=true)=False)∧(∀ i:Decidable True,@decide True i=true)∧(∀ i:Decidable False,@decide False i=false):=by
 refine⟨fun _ _ _ _=>rfl,fun _ _ _ _=>rfl,fun _ _ _=>rfl,fun _ _ _ _=>rfl,fun _ _ _=>rfl,fun _ _=>rfl,fun _ _ _ _ _=>rfl,fun _ _ _=>rfl,fun _ _ _ _=>rfl,fun _ _=>rfl,fun _ _ _=>rfl,fun _ _=>rfl,fun _ _ _=>rfl,fun _ _ _ _=>rfl,fun _ _ _ _=>rfl,fun _ _ _ _ _=>rfl,fun _ _ _=>rfl,fun _=>rfl,fun _=>rfl,fun _ _ _=>rfl,Nat.zero_add,fun _ _ _ _=>if_pos trivial,fun _ _ _ _=>if_neg not_false,Bool.false_eq_true,fun _=>decide_eq_true trivial,fun _=>decide_eq_false not_false⟩
theorem gS{α:Type}{l:List α}{i:Nat}{a:α}:l[i]? =some a↔∃ h:i<l.length,l[i]=a:=List.getElem?_eq_some_iff
def Keep(H H':Hp):Prop:=∀ (k:Nat) (o:AO),H[k]? =some o→H'[k]? =some o
theorem Keep.refl(H:Hp):Keep H H:=fun _ _ e=>e
theorem Keep.trans{H H' H'':Hp}(a:Keep H H')(b:Keep H' H''):Keep H H'':=fun k o e=>b k o (a k o e)
theorem Keep.push(H:Hp)(T:Hp):Keep H (H++T):=fun k o e=>by
 rw[getElem?_append_left (gS.mp e).1];exact e
theorem Keep.len{H H':Hp}(a:Keep H H'):H.length≤H'.length:=by
 rcases Nat.eq_zero_or_pos H.length with q | q
 ·omega
 ·have h1:H.length - 1<H.length:=by omega
  have:=a (H.length - 1) _ (getElem?_eq_getElem h1);have:=(gS.mp this).1;omega
theorem zE(H:Hp)(o:AO):(H++[o])[H.length]? =some o:=by
 rw[getElem?_append_right (Nat.le_refl _),Nat.sub_self];rfl
theorem zz{W n f:Nat}{fn:Fn}{vs:List AV}{H:Hp}{v:AV}{H':Hp}(hf:P f=some fn)(hl:vs.length=fn.np)
  (e:∃ m',exL (callF P W n) W fn.body (vs.map some++List.replicate (fn.nl - fn.np) none) H=some (.ret v,m',H')):callF P W (n+1) f vs H=some (v,H'):=by
 obtain⟨m',e⟩:=e;unfold callF;simp only[hf,hl,if_true,e]
theorem call_end{W n f:Nat}{fn:Fn}{vs:List AV}{H:Hp}{H':Hp}(hf:P f=some fn)(hl:vs.length=fn.np)
  (e:∃ m',exL (callF P W n) W fn.body (vs.map some++List.replicate (fn.nl - fn.np) none) H=some (.next,m',H')):callF P W (n+1) f vs H=some (.none,H'):=by
 obtain⟨m',e⟩:=e;unfold callF;simp only[hf,hl,if_true,e]
theorem forIt_pre{gd:Option (Nat × AO)}{t:Tgt}{body:Loc→Hp→Option (Fl × Loc × Hp)}(St:List AV→Loc→Hp→Prop):∀ (vs pre:List AV) (m:Loc) (h:Hp),
  (∀ pre m h,St pre m h→guardOk h gd=true)→
  (∀ p v q m h,pre++vs=p++v::q→St p m h→∃ m1,bindT m t v=some m1∧∃ fl m' h',body m1 h=some (fl,m',h')∧(∀ w,fl≠ .ret w)∧St (p++[v]) m' h')→
  St pre m h→∃ m' h',forIt gd t body vs m h=some (.next,m',h')∧St (pre++vs) m' h'
 | [],pre,m,h,hg,_,s=>⟨m,h,by unfold forIt;rw[if_pos (hg _ _ _ s)],by rw[append_nil];exact s⟩
 | v::vs,pre,m,h,hg,hs,s=>by
  obtain⟨m1,e1,fl,m2,h2,e2,hr,s2⟩:=hs pre v vs m h rfl s;have ih:=forIt_pre St vs (pre++[v]) m2 h2 hg (fun p w q m h e=>hs p w q m h (by rw[← e];simp)) s2
  obtain⟨m3,h3,e3,s3⟩:=ih;refine⟨m3,h3,?_,by rw[append_assoc]at s3;exact s3⟩
  unfold forIt;rw[if_pos (hg _ _ _ s)];simp only[e1,e2];cases fl with
  | next=>exact e3
  | cont=>exact e3
  | ret w=>exact absurd rfl (hr w)
theorem loopIt_pre{τ:Type}{hp:τ→Hp}{gd:Option (Nat × AO)}{f:τ→AV→Option τ}(St:List AV→τ→Prop):∀ (vs pre:List AV) (x:τ),
  (∀ pre x,St pre x→guardOk (hp x) gd=true)→(∀ p v q x,pre++vs=p++v::q→St p x→∃ x',f x v=some x'∧St (p++[v]) x')→
  St pre x→∃ x',loopIt hp gd f vs x=some x'∧St (pre++vs) x'
 | [],pre,x,hg,_,s=>⟨x,by unfold loopIt;rw[if_pos (hg _ _ s)],by rw[append_nil];exact s⟩
 | v::vs,pre,x,hg,hs,s=>by
  obtain⟨x1,e1,s1⟩:=hs pre v vs x rfl s;obtain⟨x2,e2,s2⟩:=loopIt_pre St vs (pre++[v]) x1 hg (fun p w q x e=>hs p w q x (by rw[← e];simp)) s1
  refine⟨x2,?_,by rw[append_assoc]at s2;exact s2⟩
  unfold loopIt;rw[if_pos (hg _ _ s)];simp only[e1];exact e2
theorem whileIt_down{test:Loc→Hp→Option (Bool × Hp)}{body:Loc→Hp→Option (Fl × Loc × Hp)}(St:Nat→Loc→Hp→Prop)(Fin:Loc→Hp→Prop):∀ (k:Nat) (W:Nat) (m:Loc) (h:Hp),k<W→St k m h→
  (∀ k m h,St k m h→(∃ h',test m h=some (false,h')∧Fin m h')∨(∃ h',test m h=some (true,h')∧∃ fl m' h2,body m h'=some (fl,m',h2)∧(∀ w,fl≠ .ret w)∧∃ k',k'<k∧St k' m' h2))→
  ∃ m' h',whileIt test body W m h=some (.next,m',h')∧Fin m' h':=by
 intro k;induction k using Nat.strongRecOn with
 | ind k ih=>
  intro W m h hk s hs;cases W with
  | zero=>omega
  | succ W=>
   rcases hs k m h s with⟨h',e,f⟩ | ⟨h',e,fl,m',h2,e2,hr,k',hk',s'⟩
   ·exact⟨m,h',by unfold whileIt;rw[e],f⟩
   ·obtain⟨m3,h3,e3,f3⟩:=ih k' hk' W m' h2 (by omega) s' hs
    refine⟨m3,h3,?_,f3⟩
    unfold whileIt;rw[e];simp only[e2];cases fl with
    | next=>exact e3
    | cont=>exact e3
    | ret w=>exact absurd rfl (hr w)
theorem zt(H:Hp)(a b:Int):eqV H (.int a) (.int b)=some (decide (a=b)):=by
 by_cases h:a=b<;>simp[eqV,res,eqFuel,h]
theorem eqV_str(H:Hp)(a b:Nm):eqV H (.str a) (.str b)=some (decide (a=b)):=by
 by_cases h:a=b<;>simp[eqV,res,eqFuel,h]
theorem shl_n{a b:Nat}(ha:a<4294967296)(hb:b<1024):intOp .shl a b=some ((a * 2 ^ b:Nat):Int):=by
 unfold intOp shlLid mulLid;simp only;rw[if_pos (by omega)]
 simp
theorem shr_n{a b:Nat}(hb:b<1024):intOp .shr a b=some ((a / 2 ^ b:Nat):Int):=by
 unfold intOp shlLid;simp only;rw[if_pos (by omega)]
 simp
theorem band_n{a b:Nat}:intOp .band a b=some ((a &&& b:Nat):Int):=by
 unfold intOp band;simp
theorem bor_n{a b:Nat}:intOp .bor a b=some ((a ||| b:Nat):Int):=by
 unfold intOp bor;simp
theorem bxor_n{a b:Nat}:intOp .bxor a b=some ((a ^^^ b:Nat):Int):=by
 unfold intOp bxor;simp
theorem add_n{a b:Nat}:intOp .add a b=some ((a+b:Nat):Int):=by
 unfold intOp;simp
theorem fdiv_n{a b:Nat}(h0:0<b)(h1:b<4294967296):intOp .fdiv a b=some ((a / b:Nat):Int):=by
 unfold intOp mulLid;simp only;rw[if_pos (by omega)]
 simp
theorem mod_n{a b:Nat}(h0:0<b):intOp .mod a b=some ((a % b:Nat):Int):=by
 unfold intOp;simp only;rw[if_pos (by omega)]
 simp
theorem zC{cl:Caller}{W:Nat}{s:S}{ss:List S}{m m1:Loc}{h h1:Hp}{r:Option (Fl × Loc × Hp)}(e:exS cl W s m h=some (.next,m1,h1))(e2:exL cl W ss m1 h1=r):exL cl W (s::ss) m h=r:=by
 unfold exL;simp only[e,Option.bind_eq_bind,Option.bind_some];exact e2
theorem zD{cl:Caller}{W:Nat}{s:S}{ss:List S}{m m1:Loc}{h h1:Hp}{v:AV}(e:exS cl W s m h=some (.ret v,m1,h1)):exL cl W (s::ss) m h=some (.ret v,m1,h1):=by
 unfold exL;simp only[e,Option.bind_eq_bind,Option.bind_some]
theorem items_range(h:Hp)(n:Nat)(hn:n<lenLid):itemsOf h true (.int n)=some ((List.range n).map fun (i:Nat)=>AV.int i,none):=by
 unfold itemsOf;simp only;have:(0:Int)≤(n:Int)∧(n:Int)<((lenLid:Nat):Int):=⟨Int.natCast_nonneg n,Int.ofNat_lt.mpr hn⟩;rw[if_pos this,Int.toNat_natCast]
theorem zg(h:Hp)(a:Nat)(vs:List AV)(e:h[a]? =some (.list vs)):itemsOf h false (.ref a)=some (vs,some (a,.list vs)):=by
 unfold itemsOf;simp only[e]
theorem items_tup(h:Hp)(vs:List AV):itemsOf h false (.tup vs)=some (vs,none):=rfl
theorem zp{n:Nat}(h:n≤1000):n<lenLid:=Nat.lt_of_le_of_lt h (by decide)
theorem forIt_idx{gd:Option (Nat × AO)}{t:Tgt}{body:Loc→Hp→Option (Fl × Loc × Hp)}(St:Nat→Loc→Hp→Prop){vs:List AV}{m:Loc}{h:Hp}
  (hg:∀ j m h,St j m h→guardOk h gd=true)
  (hs:∀ j v m h,vs[j]? =some v→St j m h→∃ m1,bindT m t v=some m1∧∃ fl m' h',body m1 h=some (fl,m',h')∧(∀ w,fl≠ .ret w)∧St (j+1) m' h')
  (s:St 0 m h):∃ m' h',forIt gd t body vs m h=some (.next,m',h')∧St vs.length m' h':=by
 obtain⟨m',h',e,r⟩:=forIt_pre (gd:=gd) (t:=t) (body:=body) (fun p m h=>St p.length m h) vs [] m h (fun p m h s=>hg _ m h s)
  (fun p v q m h e s=>by
   rw[nil_append]at e;obtain⟨m1,e1,fl,m2,h2,e2,hr,s2⟩:=hs p.length v m h (by rw[e,getElem?_append_right (Nat.le_refl _),Nat.sub_self];rfl) s
   exact⟨m1,e1,fl,m2,h2,e2,hr,by rw[length_append];exact s2⟩) s
 exact⟨m',h',e,by simpa using r⟩
theorem loopIt_idx{τ:Type}{hp:τ→Hp}{gd:Option (Nat × AO)}{f:τ→AV→Option τ}(St:Nat→τ→Prop){vs:List AV}{x:τ}
  (hg:∀ j x,St j x→guardOk (hp x) gd=true) (hs:∀ j v x,vs[j]? =some v→St j x→∃ x',f x v=some x'∧St (j+1) x') (s:St 0 x):∃ x',loopIt hp gd f vs x=some x'∧St vs.length x':=by
 obtain⟨x',e,r⟩:=loopIt_pre (hp:=hp) (gd:=gd) (f:=f) (fun p x=>St p.length x) vs [] x (fun p x s=>hg _ x s)
  (fun p v q x e s=>by
   rw[nil_append]at e;obtain⟨x1,e1,s1⟩:=hs p.length v x (by rw[e,getElem?_append_right (Nat.le_refl _),Nat.sub_self];rfl) s
   exact⟨x1,e1,by rw[length_append];exact s1⟩) s
 exact⟨x',e,by simpa using r⟩
theorem forIt_range{t:Tgt}{body:Loc→Hp→Option (Fl × Loc × Hp)}(St:Nat→Loc→Hp→Prop){k:Nat}{m:Loc}{h:Hp}
  (hs:∀ j m h,j<k→St j m h→∃ m1,bindT m t (.int j)=some m1∧∃ fl m' h',body m1 h=some (fl,m',h')∧(∀ w,fl≠ .ret w)∧St (j+1) m' h')
  (s:St 0 m h):∃ m' h',forIt none t body ((List.range k).map fun (i:Nat)=>AV.int i) m h=some (.next,m',h')∧St k m' h':=by
 obtain⟨m',h',e,r⟩:=forIt_idx (gd:=none) (t:=t) (body:=body) St (vs:=(List.range k).map fun (i:Nat)=>AV.int i) (m:=m) (h:=h) (fun _ _ _ _=>rfl) (fun j v m h e s=>by
  have hj:j<k:=by have:=(gS.mp e).1;simpa using this
  rw[getElem?_map,getElem?_range hj]at e;cases e;exact hs j m h hj s) s
 exact⟨m',h',e,by simpa using r⟩
theorem set_last(H:Hp)(o o':AO):(H++[o]).set H.length o'=H++[o']:=by
 rw[set_append_right _ _ (Nat.le_refl _),Nat.sub_self];rfl
theorem exS_for{cl:Caller}{W:Nat}{t:Tgt}{rng:Bool}{it:E}{b:List S}{m:Loc}{h h1:Hp}{x:AV}{vs:List AV}{gd:Option (Nat × AO)}(e1:evE cl it m [] h=some (x,h1))(e2:itemsOf h1 rng x=some (vs,gd)):
  exS cl W (.for_ t rng it b) m h=forIt gd t (fun m h=>exL cl W b m h) vs m h1:=by
 unfold exS;simp only[e1,e2,Option.bind_eq_bind,Option.bind_some]
theorem exS_while{cl:Caller}{W:Nat}{t:E}{b:List S}{m:Loc}{h:Hp}:exS cl W (.while_ t b) m h=whileIt (tstE cl t) (fun m h=>exL cl W b m h) W m h:=by
 unfold exS;rfl
theorem evE_comp{cl:Caller}{k:Nat}{t:Tgt}{rng:Bool}{it:E}{g:G}{m c:Loc}{h h1 h2:Hp}{x:AV}{vs acc:List AV}{gd:Option (Nat × AO)}{c':Loc}(e1:evE cl it m c h=some (x,h1))(e2:itemsOf h1 rng x=some (vs,gd))
  (e3:loopIt (fun (s:Loc × Hp × List AV)=>s.2.1) gd (fun (s:Loc × Hp × List AV) v=>do
   let c' ← bindT s.1 t v
   evG cl g m c' s.2.1 s.2.2) vs (List.replicate k none,h1,[])=some (c',h2,acc)):evE cl (.comp k t rng it g) m c h=some (.ref h2.length,h2++[.list acc]):=by
 unfold evE;simp only[e1,e2,Option.bind_eq_bind,Option.bind_some];simp only[Option.bind_eq_bind]at e3;rw[e3];rfl
theorem seqAt_nat(vs:List AV)(j:Nat):seqAt vs (j:Int)=vs[j]? :=by
 unfold seqAt;rw[if_pos (Int.natCast_nonneg j),Int.toNat_natCast]
theorem shl_1{b:Nat}(hb:b<1024):intOp .shl 1 b=some ((2 ^ b:Nat):Int):=by
 have:=shl_n (a:=1) (b:=b) (by omega) hb
 simpa using this
theorem band_1{a:Nat}:intOp .band a 1=some ((a &&& 1:Nat):Int):=by
 have:=band_n (a:=a) (b:=1);simpa using this
def zf(l:List Nat):List AV:=l.map fun (i:Nat)=>AV.int i
theorem natsV_get{l:List Nat}{j:Nat}(h:j<l.length):(zf l)[j]? =some (.int (l.getD j 0:Nat)):=by
 unfold zf;rw[getElem?_map,getElem?_eq_getElem h];simp[List.getD,h]
theorem zG(l:List Nat):(zf l).length=l.length:=by unfold zf;simp
theorem zN{cl:Caller}{W:Nat}{t:Tgt}{e:E}{m m1:Loc}{h h1:Hp}{v:AV}(e1:evE cl e m [] h=some (v,h1))(e2:bindT m t v=some m1):exS cl W (.assign t e) m h=some (.next,m1,h1):=by
 unfold exS;simp only[e1,e2,Option.bind_eq_bind,Option.bind_some,Option.pure_def]
theorem zi{cl:Caller}{f:Nat}{es:List E}{m c:Loc}{h h1:Hp}{vs:List AV}{r:Option (AV × Hp)}(e1:evL cl es m c h=some (vs,h1))(e2:cl f vs h1=r):evE cl (.call f es) m c h=r:=by
 unfold evE;simp only[e1,Option.bind_eq_bind,Option.bind_some];exact e2
theorem exS_ret{cl:Caller}{W:Nat}{e:E}{m:Loc}{h h1:Hp}{v:AV}(e1:evE cl e m [] h=some (v,h1)):exS cl W (.ret e) m h=some (.ret v,m,h1):=by
 unfold exS;simp only[e1,Option.bind_eq_bind,Option.bind_some,Option.pure_def]
theorem exS_expr{cl:Caller}{W:Nat}{e:E}{m:Loc}{h h1:Hp}{v:AV}(e1:evE cl e m [] h=some (v,h1)):exS cl W (.expr e) m h=some (.next,m,h1):=by
 unfold exS;simp only[e1,Option.bind_eq_bind,Option.bind_some,Option.pure_def]
theorem zo{cl:Caller}{W:Nat}{t e:E}{ss:List S}{m:Loc}{h:Hp}{c:Bool}{v:AV}{r:Option (Fl × Loc × Hp)}(e1:tstE cl t m h=some (c,h))(e2:c=true→evE cl e m [] h=some (v,h))(e3:c=false→exL cl W ss m h=r):
  exL cl W (.ite t [.ret e] []::ss) m h=if c=true then some (.ret v,m,h) else r:=by
 cases c with
 | true=>
  have e2:=e2 rfl;refine zD ?_
  unfold exS;simp only[e1,Option.bind_eq_bind,Option.bind_some,if_true];exact zD (exS_ret e2)
 | false=>
  rw[if_neg Bool.false_ne_true];refine zC (m1:=m) (h1:=h) ?_ (e3 rfl)
  unfold exS;simp only[e1,Option.bind_eq_bind,Option.bind_some,Bool.false_eq_true,if_false];rfl
theorem shl_one{b:Nat}(hb:b<1024):intOp .shl 1 b=some ((2 ^ b:Nat):Int):=by
 have:=shl_n (a:=1) (b:=b) (by omega) hb
 simpa using this
theorem eq_one{H:Hp}{b:Nat}:eqV H (.int b) (.int 1)=some (decide (b=1)):=by
 rw[zt];by_cases h:b=1
 ·subst h;simp
 ·have:¬ ((b:Int)=1):=by omega
  simp[h,this]
theorem full_table_s{W n k:Nat}{H:Hp}(hk:k≤3):callF P W (n+1) 14 [.int k] H=some (.int ((2 ^ 2 ^ k - 1:Nat):Int),H):=by
 have:k=0∨k=1∨k=2∨k=3:=by omega
 rcases this with rfl | rfl | rfl | rfl<;>rfl
def varT(i k:Nat):Nat:=(2 ^ 2 ^ k - 1) ^^^ ((2 ^ 2 ^ k - 1) / (2 ^ 2 ^ i+1))
theorem var_table_s{W n i k:Nat}{H:Hp}(hk:k≤3)(hi:i<k):callF P W (n+2) 15 [.int i,.int k] H=some (.int (varT i k:Nat),H):=by
 have:(k=1∧i=0)∨(k=2∧i=0)∨(k=2∧i=1)∨(k=3∧i=0)∨(k=3∧i=1)∨(k=3∧i=2):=by omega
 rcases this with⟨rfl,rfl⟩ | ⟨rfl,rfl⟩ | ⟨rfl,rfl⟩ | ⟨rfl,rfl⟩ | ⟨rfl,rfl⟩ | ⟨rfl,rfl⟩<;>rfl
def cof(t i bit k:Nat):Nat:=
 if bit=1 then (t &&& varT i k) ||| ((t &&& varT i k) / 2 ^ 2 ^ i) else (t ^^^ (t &&& varT i k)) ||| ((t ^^^ (t &&& varT i k)) * 2 ^ 2 ^ i)
theorem cofactor_s{W n t i bit k:Nat}{H:Hp}(hk:k≤3)(hi:i<k)(ht:t<256):callF P W (n+3) 16 [.int t,.int i,.int bit,.int k] H=some (.int (cof t i bit k:Nat),H):=by
 have h15:=var_table_s (W:=W) (n:=n) (H:=H) hk hi;have hand:t &&& varT i k≤t:=Nat.and_le_left;have hx:t ^^^ (t &&& varT i k)<256:=Nat.xor_lt_two_pow (n:=8) ht (by omega)
 have h2:2 ^ i≤4:=by
  have:i=0∨i=1∨i=2:=by omega
  rcases this with rfl | rfl | rfl<;>decide
 refine zz (fn:=f_cofactor) rfl rfl ?_
 unfold f_cofactor;have e1:=shl_one (b:=i) (by omega)
 have e2:=shr_n (a:=t &&& varT i k) (b:=2 ^ i) (by omega)
 have e3:=shl_n (a:=t ^^^ (t &&& varT i k)) (b:=2 ^ i) (by omega) (by omega)
 have e4:eqV H (.int bit) (.int 1)=some (decide (bit=1)):=eq_one;by_cases hb:bit=1
 ·simp only[exL,exS,evE,evL,tstE,bindT,setAll,binV,inplV,subV,biV,cmpV,truthy,QL,Nat.reduceAdd,Nat.reduceLT,Nat.reduceSub,h15,e1,e2,e3,e4,band_n,bor_n,bxor_n,hb,cof]
  exact⟨_,rfl⟩
 ·simp only[exL,exS,evE,evL,tstE,bindT,setAll,binV,inplV,subV,biV,cmpV,truthy,QL,Nat.reduceAdd,Nat.reduceLT,Nat.reduceSub,h15,e1,e2,e3,e4,band_n,bor_n,bxor_n,hb,cof]
  exact⟨_,rfl⟩
def dep(t i k:Nat):Bool:=decide (cof t i 0 k≠cof t i 1 k)
theorem depends_s{W n t i k:Nat}{H:Hp}(hk:k≤3)(hi:i<k)(ht:t<256):callF P W (n+4) 17 [.int t,.int i,.int k] H=some (.bool (dep t i k),H):=by
 have c0:=cofactor_s (W:=W) (n:=n) (bit:=0) (H:=H) hk hi ht;have c1:=cofactor_s (W:=W) (n:=n) (bit:=1) (H:=H) hk hi ht;simp only[Int.natCast_zero,Int.natCast_one]at c0 c1;refine zz (fn:=f_depends) rfl rfl ?_
 unfold f_depends;simp only[exL,exS,evE,evL,tstE,bindT,setAll,binV,inplV,subV,biV,cmpV,truthy,QL,Nat.reduceAdd,Nat.reduceLT,Nat.reduceSub,c0,c1,zt];have:(!decide ((cof t i 0 k:Int)=cof t i 1 k))=dep t i k:=by
  unfold dep;by_cases h:cof t i 0 k=cof t i 1 k
  ·simp[h]
  ·have:¬ ((cof t i 0 k:Int)=cof t i 1 k):=by omega
   simp[h,this]
 rw[this];exact⟨_,rfl⟩
def supp(t k:Nat):List Nat:=(List.range k).filter fun i=>dep t i k
theorem supp_le(t k:Nat):(supp t k).length≤k:=by
 have:=length_filter_le (fun i=>dep t i k) (List.range k)
 simpa[supp] using this
theorem support_s{W n t k:Nat}{H:Hp}(hk:k≤3)(ht:t<256):callF P W (n+5) 18 [.int t,.int k] H=some (.ref H.length,H++[.list ((supp t k).map fun (i:Nat)=>AV.int i)]):=by
 refine zz (fn:=f_support) rfl rfl ?_
 unfold f_support;have loop:=forIt_range (t:= .one 3) (body:=fun m h=>exL (callF P W (n+4)) W [.ite (.call 17 [(.loc 0),(.loc 3),(.loc 1)]) [.expr (.bm .append (.loc 2) [(.loc 3)])] []] m h)
  (fun j m h=>∃ x,m=[some (.int t),some (.int k),some (.ref H.length),x]∧h=H++[.list (((List.range j).filter fun i=>dep t i k).map fun (i:Nat)=>AV.int i)]) (k:=k)
  (m:=[some (.int t),some (.int k),some (.ref H.length),none]) (h:=H++[.list []]) (fun j m h hj s=>by
   obtain⟨x,rfl,rfl⟩:=s;have hd:=depends_s (W:=W) (n:=n) (H:=H++[.list (((List.range j).filter fun i=>dep t i k).map fun (i:Nat)=>AV.int i)]) hk hj ht
   refine⟨_,by simp only[exL,exS,evE,evL,tstE,bindT,setAll,binV,inplV,subV,biV,cmpV,truthy,QL,Nat.reduceAdd,Nat.reduceLT,Nat.reduceSub];rfl,?_⟩
   have hl:(((List.range j).filter fun i=>dep t i k).map fun (i:Nat)=>AV.int i).length<lenLid:=zp (by
    rw[length_map];have:=length_filter_le (fun i=>dep t i k) (List.range j)
    rw[length_range]at this;omega)
   cases hdep:dep t j k with
   | true=>
    rw[hdep]at hd;simp only[exL,exS,evE,evL,tstE,bindT,setAll,binV,inplV,subV,biV,cmpV,truthy,QL,Nat.reduceAdd,Nat.reduceLT,Nat.reduceSub,hd,bmOk,bmV,zE,hl,set_last];refine⟨_,_,_,rfl,by intro w;simp,_,rfl,?_⟩
    rw[range_succ,filter_append,map_append];simp[hdep]
   | false=>
    rw[hdep]at hd;simp only[exL,exS,evE,evL,tstE,bindT,setAll,binV,inplV,subV,biV,cmpV,truthy,QL,Nat.reduceAdd,Nat.reduceLT,Nat.reduceSub,hd];refine⟨_,_,_,rfl,by intro w;simp,_,rfl,?_⟩
    rw[range_succ,filter_append,map_append];simp[hdep]) ⟨none,rfl,rfl⟩
 obtain⟨m',h',e,x,rfl,rfl⟩:=loop;have hr:=items_range (H++[.list []]) k (zp (by omega))
 refine⟨_,zC (m1:=[some (.int t),some (.int k),some (.ref H.length),none]) (h1:=H++[.list []]) (by simp only[exL,exS,evE,evL,tstE,bindT,setAll,binV,inplV,subV,biV,cmpV,truthy,QL,Nat.reduceAdd,Nat.reduceLT,Nat.reduceSub]) (zC ((exS_for (by simp only[exL,exS,evE,evL,tstE,bindT,setAll,binV,inplV,subV,biV,cmpV,truthy,QL,Nat.reduceAdd,Nat.reduceLT,Nat.reduceSub]) hr).trans e) (zD (by simp only[exL,exS,evE,evL,tstE,bindT,setAll,binV,inplV,subV,biV,cmpV,truthy,QL,Nat.reduceAdd,Nat.reduceLT,Nat.reduceSub];rfl)))⟩
def spreadS(m:Nat)(pl:List Nat)(n:Nat):Nat:=(List.range n).foldl (fun row j=>row ||| ((m / 2 ^ j &&& 1) * 2 ^ (pl.getD j 0))) 0
theorem spreadS_succ(m:Nat)(pl:List Nat)(n:Nat):spreadS m pl (n+1)=spreadS m pl n ||| ((m / 2 ^ n &&& 1) * 2 ^ (pl.getD n 0)):=by
 unfold spreadS;rw[range_succ,foldl_append];rfl
theorem and1_lt(a:Nat):a &&& 1<4294967296:=Nat.lt_of_le_of_lt Nat.and_le_right (by decide)
theorem spread_s{W n m r:Nat}{H:Hp}{pl:List Nat}(hr:H[r]? =some (.list (zf pl)))(hl:pl.length≤1000)(hp:∀ p∈pl,p<1000):callF P W (n+1) 19 [.int m,.ref r] H=some (.int (spreadS m pl pl.length:Nat),H):=by
 refine zz (fn:=f_spread) rfl rfl ?_
 unfold f_spread;have loop:=forIt_range (t:= .one 3) (body:=fun m h=>exL (callF P W n) W [.augLoc 2 .bor (.bin .shl (.bin .band (.bin .shr (.loc 0) (.loc 3)) (.const (.int 1))) (.sub (.loc 1) (.loc 3)))] m h)
  (fun j mm h=>∃ x,mm=[some (.int m),some (.ref r),some (.int (spreadS m pl j:Nat)),x]∧h=H) (k:=pl.length)
  (m:=[some (.int m),some (.ref r),some (.int 0),none]) (h:=H) (fun j mm h hj s=>by
   obtain⟨x,rfl,rfl⟩:=s;have hg:=natsV_get hj;have hpj:pl.getD j 0<1000:=by
    rw[getD_eq_getElem?_getD,getElem?_eq_getElem hj];exact hp _ (getElem_mem hj)
   have e1:=shr_n (a:=m) (b:=j) (by omega)
   have e2:=shl_n (a:=m / 2 ^ j &&& 1) (b:=pl.getD j 0) (and1_lt _) (by omega)
   refine⟨_,by simp only[exL,exS,evE,evL,tstE,bindT,setAll,binV,inplV,subV,biV,cmpV,truthy,QL,Nat.reduceAdd,Nat.reduceLT,Nat.reduceSub];rfl,?_⟩
   simp only[exL,exS,evE,evL,tstE,bindT,setAll,binV,inplV,subV,biV,cmpV,truthy,QL,Nat.reduceAdd,Nat.reduceLT,Nat.reduceSub,e1,band_1,hr,seqAt_nat,hg,e2,bor_n];rw[← spreadS_succ];exact⟨_,_,_,rfl,by intro w;simp,_,rfl,rfl⟩) ⟨none,rfl,rfl⟩
 obtain⟨m',h',e,x,rfl,rfl⟩:=loop;have hi:=items_range h' pl.length (zp hl);exact⟨_,zC (m1:=[some (.int m),some (.ref r),some (.int 0),none]) (h1:=h') (by simp only[exL,exS,evE,evL,tstE,bindT,setAll,binV,inplV,subV,biV,cmpV,truthy,QL,Nat.reduceAdd,Nat.reduceLT,Nat.reduceSub]) (zC ((exS_for (by simp only[exL,exS,evE,evL,tstE,bindT,setAll,binV,inplV,subV,biV,cmpV,truthy,QL,Nat.reduceAdd,Nat.reduceLT,Nat.reduceSub,hr,zG]<;>rfl) hi).trans e) (zD (by simp only[exL,exS,evE,evL,tstE,bindT,setAll,binV,inplV,subV,biV,cmpV,truthy,QL,Nat.reduceAdd,Nat.reduceLT,Nat.reduceSub]<;>rfl)))⟩
def shrinkS(t k n:Nat):Nat:=(List.range n).foldl (fun r m=>r ||| ((t / 2 ^ (spreadS m (supp t k) (supp t k).length) &&& 1) * 2 ^ m)) 0
theorem shrinkS_succ(t k n:Nat):shrinkS t k (n+1)=shrinkS t k n ||| ((t / 2 ^ (spreadS n (supp t k) (supp t k).length) &&& 1) * 2 ^ n):=by
 unfold shrinkS;rw[range_succ,foldl_append];rfl
theorem supp_mem{t k p:Nat}(h:p∈supp t k):p<k:=by
 unfold supp at h;rw[mem_filter]at h;simpa using h.1
theorem spreadS_lt{t k m n:Nat}(hk:k≤3)(hn:n≤(supp t k).length):spreadS m (supp t k) n<8:=by
 induction n with
 | zero=>unfold spreadS;simp
 | succ n ih=>
  rw[spreadS_succ];refine Nat.or_lt_two_pow (n:=3) (ih (by omega)) ?_
  have h1:(supp t k).getD n 0<3:=by
   rw[getD_eq_getElem?_getD,getElem?_eq_getElem (by omega)]
   have:=supp_mem (getElem_mem (l:=supp t k) (n:=n) (by omega))
   simp only[Option.getD_some];omega
  have h2:m / 2 ^ n &&& 1≤1:=Nat.and_le_right;have h3:2 ^ ((supp t k).getD n 0)≤4:=by
   have:(supp t k).getD n 0=0∨(supp t k).getD n 0=1∨(supp t k).getD n 0=2:=by omega
   rcases this with q | q | q<;>rw[q]<;>decide
  calc (m / 2 ^ n &&& 1) * 2 ^ ((supp t k).getD n 0)≤1 * 4:=Nat.mul_le_mul h2 h3
   _<2 ^ 3:=by decide
theorem support_n{W n t k:Nat}{H:Hp}(hk:k≤3)(ht:t<256):callF P W (n+5) 18 [.int t,.int k] H=some (.ref H.length,H++[.list (zf (supp t k))]):=by
 unfold zf;exact support_s hk ht
theorem shrink_s{W n t k:Nat}{H:Hp}(hk:k≤3)(ht:t<256):callF P W (n+6) 20 [.int t,.int k] H=some (.tup [.int (shrinkS t k (2 ^ (supp t k).length):Nat),.ref H.length],H++[.list (zf (supp t k))]):=by
 refine zz (fn:=f_shrink) rfl rfl ?_
 unfold f_shrink;have hs:=support_n (W:=W) (n:=n) (H:=H) hk ht;have hle:=supp_le t k;have hp:2 ^ (supp t k).length≤8:=by
  have:(supp t k).length=0∨(supp t k).length=1∨(supp t k).length=2∨(supp t k).length=3:=by omega
  rcases this with q | q | q | q<;>rw[q]<;>decide
 have hg:(H++[AO.list (zf (supp t k))])[H.length]? =some (.list (zf (supp t k))):=zE _ _;have sp:∀ j:Nat,callF P W (n+5) 19 [.int j,.ref H.length] (H++[AO.list (zf (supp t k))])=some (.int (spreadS j (supp t k) (supp t k).length:Nat),H++[AO.list (zf (supp t k))]):=fun j=>spread_s (W:=W) (n:=n+4) (m:=j) hg (by omega) (fun p hp=>by have:=supp_mem hp;omega)
 have hlt:∀ j:Nat,spreadS j (supp t k) (supp t k).length<8:=fun j=>spreadS_lt (t:=t) (m:=j) hk (Nat.le_refl _)
 have hsucc:=shrinkS_succ t k;have h0:shrinkS t k 0=0:=rfl;have e3:=shl_1 (b:=(supp t k).length) (Nat.lt_of_le_of_lt (Nat.le_trans hle hk) (by decide))
 have hlen:=zG (supp t k);generalize callF P W (n+5)=cl at hs sp ⊢;generalize shrinkS t k=S0 at hsucc h0 ⊢;generalize zf (supp t k)=sv at hs hg sp hlen ⊢;generalize hL:(supp t k).length=L at *;generalize hSp:(fun j=>spreadS j (supp t k) L)=SP at *
 have hSp':∀ j,spreadS j (supp t k) L=SP j:=fun j=>by rw[← hSp]
 simp only[hSp']at sp hlt hsucc;have loop:=forIt_range (t:= .one 4) (body:=fun m h=>exL cl W [.augLoc 3 .bor (.bin .shl (.bin .band (.bin .shr (.loc 0) (.call 19 [(.loc 4),(.loc 2)])) (.const (.int 1))) (.loc 4))] m h)
  (fun j mm h=>∃ x,mm=[some (.int t),some (.int k),some (.ref H.length),some (.int (S0 j:Nat)),x]∧h=H++[.list sv]) (k:=2 ^ L)
  (m:=[some (.int t),some (.int k),some (.ref H.length),some (.int 0),none]) (h:=H++[.list sv]) (fun j mm h hj s=>by
   obtain⟨x,rfl,rfl⟩:=s;have sp':=sp j;have e1:=shr_n (a:=t) (b:=SP j) (by have:=hlt j;omega)
   have e2:=shl_n (a:=t / 2 ^ SP j &&& 1) (b:=j) (and1_lt _) (by omega)
   refine⟨_,by simp only[exL,exS,evE,evL,tstE,bindT,setAll,binV,inplV,subV,biV,cmpV,truthy,QL,Nat.reduceAdd,Nat.reduceLT,Nat.reduceSub]<;>rfl,?_⟩
   simp only[exL,exS,evE,evL,tstE,bindT,setAll,binV,inplV,subV,biV,cmpV,truthy,QL,Nat.reduceAdd,Nat.reduceLT,Nat.reduceSub,sp',e1,band_1,e2,bor_n];rw[← hsucc];exact⟨_,_,_,rfl,by intro w;simp,_,rfl,rfl⟩) ⟨none,by rw[h0];rfl,rfl⟩
 obtain⟨m',h',e,x,rfl,rfl⟩:=loop;have hi:=items_range (H++[.list sv]) (2 ^ L) (zp (Nat.le_trans hp (by decide)))
 generalize 2 ^ L=N at *;have ev:evE cl (.bin .shl (.const (.int 1)) (.bi .len [(.loc 2)])) [some (.int t),some (.int k),some (.ref H.length),some (.int 0),none] [] (H++[.list sv])=some (.int (N:Nat),H++[.list sv]):=by
  simp only[exL,exS,evE,evL,tstE,bindT,setAll,binV,inplV,subV,biV,cmpV,truthy,QL,Nat.reduceAdd,Nat.reduceLT,Nat.reduceSub,hg,hlen,e3]
 have s1:exS cl W (.assign (.one 2) (.call 18 [(.loc 0),(.loc 1)])) [some (.int t),some (.int k),none,none,none] H=some (.next,[some (.int t),some (.int k),some (.ref H.length),none,none],H++[.list sv]):=
  zN (zi (vs:=[.int t,.int k]) (h1:=H) (by simp only[exL,exS,evE,evL,tstE,bindT,setAll,binV,inplV,subV,biV,cmpV,truthy,QL,Nat.reduceAdd,Nat.reduceLT,Nat.reduceSub]) hs) (by simp only[exL,exS,evE,evL,tstE,bindT,setAll,binV,inplV,subV,biV,cmpV,truthy,QL,Nat.reduceAdd,Nat.reduceLT,Nat.reduceSub])
 have s2:exS cl W (.assign (.one 3) (.const (.int 0))) [some (.int t),some (.int k),some (.ref H.length),none,none] (H++[.list sv])=some (.next,[some (.int t),some (.int k),some (.ref H.length),some (.int 0),none],H++[.list sv]):=by
  simp only[exL,exS,evE,evL,tstE,bindT,setAll,binV,inplV,subV,biV,cmpV,truthy,QL,Nat.reduceAdd,Nat.reduceLT,Nat.reduceSub]
 have s4:exS cl W (.ret (.tup [(.loc 3),(.loc 2)])) [some (.int t),some (.int k),some (.ref H.length),some (.int (S0 N:Nat)),x] (H++[.list sv])=some (.ret (.tup [.int (S0 N:Nat),.ref H.length]),[some (.int t),some (.int k),some (.ref H.length),some (.int (S0 N:Nat)),x],H++[.list sv]):=by
  simp only[exL,exS,evE,evL,tstE,bindT,setAll,binV,inplV,subV,biV,cmpV,truthy,QL,Nat.reduceAdd,Nat.reduceLT,Nat.reduceSub]
 exact⟨_,zC s1 (zC s2 (zC ((exS_for ev hi).trans e) (zD s4)))⟩
def kBuf:Nm:=[98,117,102]
def kNot:Nm:=[110,111,116]
def kAnd:Nm:=[97,110,100]
def kNand:Nm:=[110,97,110,100]
def kOr:Nm:=[111,114]
def kNor:Nm:=[110,111,114]
def kXor:Nm:=[120,111,114]
def kXnor:Nm:=[120,110,111,114]
def kMux:Nm:=[109,117,120]
def kLut:Nm:=[108,117,116]
def kCell:Nm:=[99,101,108,108]
def kFlop:Nm:=[102,108,111,112]
def kLatch:Nm:=[108,97,116,99,104]
abbrev Form:=Nm × List Int
def Form.v(f:Form):AV:= .tup [.str f.1,.tup (f.2.map .int)]
def andForm(a b:Int)(o:Bool):Form:=if (decide (a=0) || decide (b=0) || o)=true then (kBuf,[0]) else if (decide (a=1) || decide (a=b))=true then (kBuf,[b]) else if decide (b=1)=true then (kBuf,[a]) else (kAnd,[a,b])
theorem or3{cl:Caller}{a b c:E}{m:Loc}{h:Hp}{x y z:Bool}(e1:evE cl a m [] h=some (.bool x,h))(e2:evE cl b m [] h=some (.bool y,h))(e3:evE cl c m [] h=some (.bool z,h)):tstE cl (.bop false [a,b,c]) m h=some (x || y || z,h):=by
 unfold tstE evE;simp only[evB,e1,e2,e3,Option.bind_eq_bind,Option.bind_some,truthy,Option.pure_def];cases x<;>cases y<;>simp[truthy]
theorem or2{cl:Caller}{a b:E}{m:Loc}{h:Hp}{x y:Bool}(e1:evE cl a m [] h=some (.bool x,h))(e2:evE cl b m [] h=some (.bool y,h)):tstE cl (.bop false [a,b]) m h=some (x || y,h):=by
 unfold tstE evE;simp only[evB,e1,e2,Option.bind_eq_bind,Option.bind_some,truthy,Option.pure_def];cases x<;>simp[truthy]
theorem and2{cl:Caller}{a b:E}{m:Loc}{h:Hp}{x y:Bool}(e1:evE cl a m [] h=some (.bool x,h))(e2:evE cl b m [] h=some (.bool y,h)):tstE cl (.bop true [a,b]) m h=some (x&&y,h):=by
 unfold tstE evE;simp only[evB,e1,e2,Option.bind_eq_bind,Option.bind_some,truthy,Option.pure_def];cases x<;>simp[truthy]
theorem zL{cl:Caller}{a:E}{m:Loc}{h:Hp}{x:Bool}(e1:evE cl a m [] h=some (.bool x,h)):tstE cl a m h=some (x,h):=by
 unfold tstE;simp only[e1,Option.bind_eq_bind,Option.bind_some,truthy,Option.pure_def]
theorem ret_ite{c:Bool}{m:Loc}{h:Hp}{x y:AV}:(if c=true then some (Fl.ret x,m,h) else some (Fl.ret y,m,h))=some (Fl.ret (if c=true then x else y),m,h):=by cases c<;>rfl
theorem ite_v{c:Prop}[Decidable c]{x y:Form}:(if c then x.v else y.v)=(if c then x else y).v:=by split<;>rfl
theorem and_form_s{W n:Nat}{a b:Int}{o:Bool}{H:Hp}:callF P W (n+1) 24 [.int a,.int b,.bool o] H=some ((andForm a b o).v,H):=by
 refine zz (fn:=f_and_form) rfl rfl ⟨[some (.int a),some (.int b),some (.bool o)],?_⟩
 unfold f_and_form;generalize callF P W n=cl;simp only[map_cons,map_nil,cons_append,nil_append,length_cons,length_nil,Nat.reduceAdd,Nat.zero_add,Nat.reduceSub,replicate_zero];refine (zo (v:=Form.v (kBuf,[0])) (or3 (x:=decide (a=0)) (y:=decide (b=0)) (z:=o) (by simp only[exL,exS,evE,evL,tstE,bindT,setAll,binV,inplV,subV,biV,cmpV,truthy,QL,Nat.reduceAdd,Nat.reduceLT,Nat.reduceSub,zt]) (by simp only[exL,exS,evE,evL,tstE,bindT,setAll,binV,inplV,subV,biV,cmpV,truthy,QL,Nat.reduceAdd,Nat.reduceLT,Nat.reduceSub,zt]) (by simp only[exL,exS,evE,evL,tstE,bindT,setAll,binV,inplV,subV,biV,cmpV,truthy,QL,Nat.reduceAdd,Nat.reduceLT,Nat.reduceSub])) (fun _=>by simp only[exL,exS,evE,evL,tstE,bindT,setAll,binV,inplV,subV,biV,cmpV,truthy,QL,Nat.reduceAdd,Nat.reduceLT,Nat.reduceSub]<;>rfl) fun _=>
  zo (v:=Form.v (kBuf,[b])) (or2 (x:=decide (a=1)) (y:=decide (a=b)) (by simp only[exL,exS,evE,evL,tstE,bindT,setAll,binV,inplV,subV,biV,cmpV,truthy,QL,Nat.reduceAdd,Nat.reduceLT,Nat.reduceSub,zt]) (by simp only[exL,exS,evE,evL,tstE,bindT,setAll,binV,inplV,subV,biV,cmpV,truthy,QL,Nat.reduceAdd,Nat.reduceLT,Nat.reduceSub,zt])) (fun _=>by simp only[exL,exS,evE,evL,tstE,bindT,setAll,binV,inplV,subV,biV,cmpV,truthy,QL,Nat.reduceAdd,Nat.reduceLT,Nat.reduceSub]<;>rfl) fun _=>
  zo (v:=Form.v (kBuf,[a])) (zL (x:=decide (b=1)) (by simp only[exL,exS,evE,evL,tstE,bindT,setAll,binV,inplV,subV,biV,cmpV,truthy,QL,Nat.reduceAdd,Nat.reduceLT,Nat.reduceSub,zt])) (fun _=>by simp only[exL,exS,evE,evL,tstE,bindT,setAll,binV,inplV,subV,biV,cmpV,truthy,QL,Nat.reduceAdd,Nat.reduceLT,Nat.reduceSub]<;>rfl) fun _=>zD (v:=Form.v (kAnd,[a,b])) (by simp only[exL,exS,evE,evL,tstE,bindT,setAll,binV,inplV,subV,biV,cmpV,truthy,QL,Nat.reduceAdd,Nat.reduceLT,Nat.reduceSub]<;>rfl)).trans ?_
 simp only[ret_ite,ite_v,andForm]
def orForm(a b:Int)(o:Bool):Form:=if (decide (a=1) || decide (b=1) || o)=true then (kBuf,[1]) else if (decide (a=0) || decide (a=b))=true then (kBuf,[b]) else if decide (b=0)=true then (kBuf,[a]) else (kOr,[a,b])
theorem or_form_s{W n:Nat}{a b:Int}{o:Bool}{H:Hp}:callF P W (n+1) 25 [.int a,.int b,.bool o] H=some ((orForm a b o).v,H):=by
 refine zz (fn:=f_or_form) rfl rfl ⟨[some (.int a),some (.int b),some (.bool o)],?_⟩
 unfold f_or_form;generalize callF P W n=cl;simp only[map_cons,map_nil,cons_append,nil_append,length_cons,length_nil,Nat.reduceAdd,Nat.zero_add,Nat.reduceSub,replicate_zero];refine (zo (v:=Form.v (kBuf,[1])) (or3 (x:=decide (a=1)) (y:=decide (b=1)) (z:=o) (by simp only[exL,exS,evE,evL,tstE,bindT,setAll,binV,inplV,subV,biV,cmpV,truthy,QL,Nat.reduceAdd,Nat.reduceLT,Nat.reduceSub,zt]) (by simp only[exL,exS,evE,evL,tstE,bindT,setAll,binV,inplV,subV,biV,cmpV,truthy,QL,Nat.reduceAdd,Nat.reduceLT,Nat.reduceSub,zt]) (by simp only[exL,exS,evE,evL,tstE,bindT,setAll,binV,inplV,subV,biV,cmpV,truthy,QL,Nat.reduceAdd,Nat.reduceLT,Nat.reduceSub])) (fun _=>by simp only[exL,exS,evE,evL,tstE,bindT,setAll,binV,inplV,subV,biV,cmpV,truthy,QL,Nat.reduceAdd,Nat.reduceLT,Nat.reduceSub]<;>rfl) fun _=>
  zo (v:=Form.v (kBuf,[b])) (or2 (x:=decide (a=0)) (y:=decide (a=b)) (by simp only[exL,exS,evE,evL,tstE,bindT,setAll,binV,inplV,subV,biV,cmpV,truthy,QL,Nat.reduceAdd,Nat.reduceLT,Nat.reduceSub,zt]) (by simp only[exL,exS,evE,evL,tstE,bindT,setAll,binV,inplV,subV,biV,cmpV,truthy,QL,Nat.reduceAdd,Nat.reduceLT,Nat.reduceSub,zt])) (fun _=>by simp only[exL,exS,evE,evL,tstE,bindT,setAll,binV,inplV,subV,biV,cmpV,truthy,QL,Nat.reduceAdd,Nat.reduceLT,Nat.reduceSub]<;>rfl) fun _=>
  zo (v:=Form.v (kBuf,[a])) (zL (x:=decide (b=0)) (by simp only[exL,exS,evE,evL,tstE,bindT,setAll,binV,inplV,subV,biV,cmpV,truthy,QL,Nat.reduceAdd,Nat.reduceLT,Nat.reduceSub,zt])) (fun _=>by simp only[exL,exS,evE,evL,tstE,bindT,setAll,binV,inplV,subV,biV,cmpV,truthy,QL,Nat.reduceAdd,Nat.reduceLT,Nat.reduceSub]<;>rfl) fun _=>zD (v:=Form.v (kOr,[a,b])) (by simp only[exL,exS,evE,evL,tstE,bindT,setAll,binV,inplV,subV,biV,cmpV,truthy,QL,Nat.reduceAdd,Nat.reduceLT,Nat.reduceSub]<;>rfl)).trans ?_
 simp only[ret_ite,ite_v,orForm]
def xorForm(a b:Int)(o:Bool):Form:=if decide (a=b)=true then (kBuf,[0]) else if o=true then (kBuf,[1]) else if decide (a=0)=true then (kBuf,[b]) else if decide (b=0)=true then (kBuf,[a]) else if decide (a=1)=true then (kNot,[b]) else if decide (b=1)=true then (kNot,[a]) else (kXor,[a,b])
theorem xor_form_s{W n:Nat}{a b:Int}{o:Bool}{H:Hp}:callF P W (n+1) 26 [.int a,.int b,.bool o] H=some ((xorForm a b o).v,H):=by
 refine zz (fn:=f_xor_form) rfl rfl ⟨[some (.int a),some (.int b),some (.bool o)],?_⟩
 unfold f_xor_form;generalize callF P W n=cl;simp only[map_cons,map_nil,cons_append,nil_append,length_cons,length_nil,Nat.reduceAdd,Nat.zero_add,Nat.reduceSub,replicate_zero];refine (zo (v:=Form.v (kBuf,[0])) (zL (x:=decide (a=b)) (by simp only[exL,exS,evE,evL,tstE,bindT,setAll,binV,inplV,subV,biV,cmpV,truthy,QL,Nat.reduceAdd,Nat.reduceLT,Nat.reduceSub,zt])) (fun _=>by simp only[exL,exS,evE,evL,tstE,bindT,setAll,binV,inplV,subV,biV,cmpV,truthy,QL,Nat.reduceAdd,Nat.reduceLT,Nat.reduceSub]<;>rfl) fun _=>
  zo (v:=Form.v (kBuf,[1])) (zL (x:=o) (by simp only[exL,exS,evE,evL,tstE,bindT,setAll,binV,inplV,subV,biV,cmpV,truthy,QL,Nat.reduceAdd,Nat.reduceLT,Nat.reduceSub])) (fun _=>by simp only[exL,exS,evE,evL,tstE,bindT,setAll,binV,inplV,subV,biV,cmpV,truthy,QL,Nat.reduceAdd,Nat.reduceLT,Nat.reduceSub]<;>rfl) fun _=>
  zo (v:=Form.v (kBuf,[b])) (zL (x:=decide (a=0)) (by simp only[exL,exS,evE,evL,tstE,bindT,setAll,binV,inplV,subV,biV,cmpV,truthy,QL,Nat.reduceAdd,Nat.reduceLT,Nat.reduceSub,zt])) (fun _=>by simp only[exL,exS,evE,evL,tstE,bindT,setAll,binV,inplV,subV,biV,cmpV,truthy,QL,Nat.reduceAdd,Nat.reduceLT,Nat.reduceSub]<;>rfl) fun _=>
  zo (v:=Form.v (kBuf,[a])) (zL (x:=decide (b=0)) (by simp only[exL,exS,evE,evL,tstE,bindT,setAll,binV,inplV,subV,biV,cmpV,truthy,QL,Nat.reduceAdd,Nat.reduceLT,Nat.reduceSub,zt])) (fun _=>by simp only[exL,exS,evE,evL,tstE,bindT,setAll,binV,inplV,subV,biV,cmpV,truthy,QL,Nat.reduceAdd,Nat.reduceLT,Nat.reduceSub]<;>rfl) fun _=>
  zo (v:=Form.v (kNot,[b])) (zL (x:=decide (a=1)) (by simp only[exL,exS,evE,evL,tstE,bindT,setAll,binV,inplV,subV,biV,cmpV,truthy,QL,Nat.reduceAdd,Nat.reduceLT,Nat.reduceSub,zt])) (fun _=>by simp only[exL,exS,evE,evL,tstE,bindT,setAll,binV,inplV,subV,biV,cmpV,truthy,QL,Nat.reduceAdd,Nat.reduceLT,Nat.reduceSub]<;>rfl) fun _=>
  zo (v:=Form.v (kNot,[a])) (zL (x:=decide (b=1)) (by simp only[exL,exS,evE,evL,tstE,bindT,setAll,binV,inplV,subV,biV,cmpV,truthy,QL,Nat.reduceAdd,Nat.reduceLT,Nat.reduceSub,zt])) (fun _=>by simp only[exL,exS,evE,evL,tstE,bindT,setAll,binV,inplV,subV,biV,cmpV,truthy,QL,Nat.reduceAdd,Nat.reduceLT,Nat.reduceSub]<;>rfl) fun _=>zD (v:=Form.v (kXor,[a,b])) (by simp only[exL,exS,evE,evL,tstE,bindT,setAll,binV,inplV,subV,biV,cmpV,truthy,QL,Nat.reduceAdd,Nat.reduceLT,Nat.reduceSub]<;>rfl)).trans ?_
 simp only[ret_ite,ite_v,xorForm]
def selForm(s a b:Int):Form:=if (decide (s=0) || decide (a=b))=true then (kBuf,[a]) else if decide (s=1)=true then (kBuf,[b]) else if (decide (a=0)&&decide (b=1))=true then (kBuf,[s]) else if (decide (a=1)&&decide (b=0))=true then (kNot,[s]) else (kMux,[s,a,b])
theorem select_form_s{W n:Nat}{s a b:Int}{H:Hp}:callF P W (n+1) 29 [.int s,.int a,.int b] H=some ((selForm s a b).v,H):=by
 refine zz (fn:=f_select_form) rfl rfl ⟨[some (.int s),some (.int a),some (.int b)],?_⟩
 unfold f_select_form;generalize callF P W n=cl;simp only[map_cons,map_nil,cons_append,nil_append,length_cons,length_nil,Nat.reduceAdd,Nat.zero_add,Nat.reduceSub,replicate_zero];refine (zo (v:=Form.v (kBuf,[a])) (or2 (x:=decide (s=0)) (y:=decide (a=b)) (by simp only[exL,exS,evE,evL,tstE,bindT,setAll,binV,inplV,subV,biV,cmpV,truthy,QL,Nat.reduceAdd,Nat.reduceLT,Nat.reduceSub,zt]) (by simp only[exL,exS,evE,evL,tstE,bindT,setAll,binV,inplV,subV,biV,cmpV,truthy,QL,Nat.reduceAdd,Nat.reduceLT,Nat.reduceSub,zt])) (fun _=>by simp only[exL,exS,evE,evL,tstE,bindT,setAll,binV,inplV,subV,biV,cmpV,truthy,QL,Nat.reduceAdd,Nat.reduceLT,Nat.reduceSub]<;>rfl) fun _=>
  zo (v:=Form.v (kBuf,[b])) (zL (x:=decide (s=1)) (by simp only[exL,exS,evE,evL,tstE,bindT,setAll,binV,inplV,subV,biV,cmpV,truthy,QL,Nat.reduceAdd,Nat.reduceLT,Nat.reduceSub,zt])) (fun _=>by simp only[exL,exS,evE,evL,tstE,bindT,setAll,binV,inplV,subV,biV,cmpV,truthy,QL,Nat.reduceAdd,Nat.reduceLT,Nat.reduceSub]<;>rfl) fun _=>
  zo (v:=Form.v (kBuf,[s])) (and2 (x:=decide (a=0)) (y:=decide (b=1)) (by simp only[exL,exS,evE,evL,tstE,bindT,setAll,binV,inplV,subV,biV,cmpV,truthy,QL,Nat.reduceAdd,Nat.reduceLT,Nat.reduceSub,zt]) (by simp only[exL,exS,evE,evL,tstE,bindT,setAll,binV,inplV,subV,biV,cmpV,truthy,QL,Nat.reduceAdd,Nat.reduceLT,Nat.reduceSub,zt])) (fun _=>by simp only[exL,exS,evE,evL,tstE,bindT,setAll,binV,inplV,subV,biV,cmpV,truthy,QL,Nat.reduceAdd,Nat.reduceLT,Nat.reduceSub]<;>rfl) fun _=>
  zo (v:=Form.v (kNot,[s])) (and2 (x:=decide (a=1)) (y:=decide (b=0)) (by simp only[exL,exS,evE,evL,tstE,bindT,setAll,binV,inplV,subV,biV,cmpV,truthy,QL,Nat.reduceAdd,Nat.reduceLT,Nat.reduceSub,zt]) (by simp only[exL,exS,evE,evL,tstE,bindT,setAll,binV,inplV,subV,biV,cmpV,truthy,QL,Nat.reduceAdd,Nat.reduceLT,Nat.reduceSub,zt])) (fun _=>by simp only[exL,exS,evE,evL,tstE,bindT,setAll,binV,inplV,subV,biV,cmpV,truthy,QL,Nat.reduceAdd,Nat.reduceLT,Nat.reduceSub]<;>rfl) fun _=>zD (v:=Form.v (kMux,[s,a,b])) (by simp only[exL,exS,evE,evL,tstE,bindT,setAll,binV,inplV,subV,biV,cmpV,truthy,QL,Nat.reduceAdd,Nat.reduceLT,Nat.reduceSub]<;>rfl)).trans ?_
 simp only[ret_ite,ite_v,selForm]
def turnForm(k:Nm)(a:Int)(l:List Int):Form:=
 if decide (k=kBuf)=true then (if (decide (a=0) || decide (a=1))=true then (kBuf,[1 - a]) else (kNot,a::l))
 else if decide (k=kNot)=true then (kBuf,a::l) else if decide (k=kAnd)=true then (kNand,a::l) else if decide (k=kOr)=true then (kNor,a::l) else (kXnor,a::l)
theorem seqAt_0(v:AV)(vs:List AV):seqAt (v::vs) 0=some v:=rfl
theorem seqAt_1(v w:AV)(vs:List AV):seqAt (v::w::vs) 1=some w:=rfl
theorem seqAt_2(v w x:AV)(vs:List AV):seqAt (v::w::x::vs) 2=some x:=rfl
theorem seqAt_3(v w x y:AV)(vs:List AV):seqAt (v::w::x::y::vs) 3=some y:=rfl
theorem exL_if{cl:Caller}{W:Nat}{t:E}{b ss:List S}{m:Loc}{h:Hp}{c:Bool}{r r2:Option (Fl × Loc × Hp)}(e1:tstE cl t m h=some (c,h))(e2:c=true→∃ v m' h',exL cl W b m h=some (.ret v,m',h')∧r=some (.ret v,m',h'))(e3:c=false→exL cl W ss m h=r2):
  exL cl W (.ite t b []::ss) m h=if c=true then r else r2:=by
 cases c with
 | true=>
  obtain⟨v,m',h',e2,e4⟩:=e2 rfl;rw[if_pos rfl,e4];refine zD ?_
  unfold exS;simp only[e1,Option.bind_eq_bind,Option.bind_some,if_true];exact e2
 | false=>
  rw[if_neg Bool.false_ne_true];refine zC (m1:=m) (h1:=h) ?_ (e3 rfl)
  unfold exS;simp only[e1,Option.bind_eq_bind,Option.bind_some,Bool.false_eq_true,if_false];rfl
theorem turned_form_s{W n:Nat}{k:Nm}{a:Int}{l:List Int}{H:Hp}:callF P W (n+1) 27 [Form.v (k,a::l)] H=some ((turnForm k a l).v,H):=by
 refine zz (fn:=f_turned_form) rfl rfl ⟨[some (Form.v (k,a::l)),some (.str k),some (.tup (.int a::l.map .int))],?_⟩
 unfold f_turned_form;generalize callF P W n=cl;simp only[map_cons,map_nil,cons_append,nil_append,length_cons,length_nil,Nat.reduceAdd,Nat.zero_add,Nat.reduceSub,replicate_zero,replicate_succ];refine zC (m1:=[some (Form.v (k,a::l)),some (.str k),some (.tup (.int a::l.map .int))]) (h1:=H) (by unfold Form.v;simp only[exL,exS,evE,evL,tstE,bindT,setAll,binV,inplV,subV,biV,cmpV,truthy,QL,Nat.reduceAdd,Nat.reduceLT,Nat.reduceSub]) ?_
 generalize Form.v (k,a::l)=fv;refine (exL_if (c:=decide (k=kBuf)) (r:=some (.ret (if (decide (a=0) || decide (a=1))=true then Form.v (kBuf,[1 - a]) else Form.v (kNot,a::l)),[some fv,some (.str k),some (.tup (.int a::l.map .int))],H))
  (zL (by simp only[exL,exS,evE,evL,tstE,bindT,setAll,binV,inplV,subV,biV,cmpV,truthy,QL,Nat.reduceAdd,Nat.reduceLT,Nat.reduceSub,eqV_str,kBuf]<;>rfl)) (fun _=>⟨_,_,_,((zo (v:=Form.v (kBuf,[1 - a])) (or2 (x:=decide (a=0)) (y:=decide (a=1)) (by simp only[exL,exS,evE,evL,tstE,bindT,setAll,binV,inplV,subV,biV,cmpV,truthy,QL,Nat.reduceAdd,Nat.reduceLT,Nat.reduceSub,seqAt_0,zt]) (by simp only[exL,exS,evE,evL,tstE,bindT,setAll,binV,inplV,subV,biV,cmpV,truthy,QL,Nat.reduceAdd,Nat.reduceLT,Nat.reduceSub,seqAt_0,zt])) (fun _=>by simp only[exL,exS,evE,evL,tstE,bindT,setAll,binV,inplV,subV,biV,cmpV,truthy,QL,Nat.reduceAdd,Nat.reduceLT,Nat.reduceSub,seqAt_0,intOp]<;>rfl) (fun _=>zD (exS_ret (v:=Form.v (kNot,a::l)) (h1:=H) (by simp only[exL,exS,evE,evL,tstE,bindT,setAll,binV,inplV,subV,biV,cmpV,truthy,QL,Nat.reduceAdd,Nat.reduceLT,Nat.reduceSub]<;>rfl)))).trans ret_ite),rfl⟩) fun _=>
  zo (v:=Form.v (kBuf,a::l)) (zL (x:=decide (k=kNot)) (by simp only[exL,exS,evE,evL,tstE,bindT,setAll,binV,inplV,subV,biV,cmpV,truthy,QL,Nat.reduceAdd,Nat.reduceLT,Nat.reduceSub,eqV_str,kNot]<;>rfl)) (fun _=>by simp only[exL,exS,evE,evL,tstE,bindT,setAll,binV,inplV,subV,biV,cmpV,truthy,QL,Nat.reduceAdd,Nat.reduceLT,Nat.reduceSub]<;>rfl) fun _=>
  zo (v:=Form.v (kNand,a::l)) (zL (x:=decide (k=kAnd)) (by simp only[exL,exS,evE,evL,tstE,bindT,setAll,binV,inplV,subV,biV,cmpV,truthy,QL,Nat.reduceAdd,Nat.reduceLT,Nat.reduceSub,eqV_str,kAnd]<;>rfl)) (fun _=>by simp only[exL,exS,evE,evL,tstE,bindT,setAll,binV,inplV,subV,biV,cmpV,truthy,QL,Nat.reduceAdd,Nat.reduceLT,Nat.reduceSub]<;>rfl) fun _=>
  zo (v:=Form.v (kNor,a::l)) (zL (x:=decide (k=kOr)) (by simp only[exL,exS,evE,evL,tstE,bindT,setAll,binV,inplV,subV,biV,cmpV,truthy,QL,Nat.reduceAdd,Nat.reduceLT,Nat.reduceSub,eqV_str,kOr]<;>rfl)) (fun _=>by simp only[exL,exS,evE,evL,tstE,bindT,setAll,binV,inplV,subV,biV,cmpV,truthy,QL,Nat.reduceAdd,Nat.reduceLT,Nat.reduceSub]<;>rfl) fun _=>zD (exS_ret (v:=Form.v (kXnor,a::l)) (h1:=H) (by simp only[exL,exS,evE,evL,tstE,bindT,setAll,binV,inplV,subV,biV,cmpV,truthy,QL,Nat.reduceAdd,Nat.reduceLT,Nat.reduceSub]<;>rfl))).trans ?_
 simp only[ret_ite,ite_v,turnForm]
def turnOf(f:Form):Form:=match f.2 with
 | []=>f
 | a::l=>turnForm f.1 a l
theorem turned_of{W n:Nat}{f:Form}{H:Hp}(h:f.2≠[]):callF P W (n+1) 27 [f.v] H=some ((turnOf f).v,H):=by
 obtain⟨k,l⟩:=f;cases l with
 | nil=>exact absurd rfl h
 | cons a l=>exact turned_form_s
theorem and_ne(a b:Int)(o:Bool):(andForm a b o).2≠[]:=by unfold andForm;(repeat' split)<;>exact cons_ne_nil _ _
theorem or_ne(a b:Int)(o:Bool):(orForm a b o).2≠[]:=by unfold orForm;(repeat' split)<;>exact cons_ne_nil _ _
theorem xor_ne(a b:Int)(o:Bool):(xorForm a b o).2≠[]:=by unfold xorForm;(repeat' split)<;>exact cons_ne_nil _ _
def zJ(k:Nm)(a b:Int)(o:Bool):Form:=
 if decide (k=kAnd)=true then andForm a b o else if decide (k=kNand)=true then turnOf (andForm a b o) else if decide (k=kOr)=true then orForm a b o
 else if decide (k=kNor)=true then turnOf (orForm a b o) else if decide (k=kXor)=true then xorForm a b o else turnOf (xorForm a b o)
theorem gate_form_s{W n:Nat}{k:Nm}{a b:Int}{o:Bool}{H:Hp}:callF P W (n+2) 28 [.str k,.int a,.int b,.bool o] H=some ((zJ k a b o).v,H):=by
 refine zz (fn:=f_gate_form) rfl rfl ⟨[some (.str k),some (.int a),some (.int b),some (.bool o)],?_⟩
 unfold f_gate_form;have h1:=and_form_s (W:=W) (n:=n) (a:=a) (b:=b) (o:=o) (H:=H);have h2:=or_form_s (W:=W) (n:=n) (a:=a) (b:=b) (o:=o) (H:=H);have h3:=xor_form_s (W:=W) (n:=n) (a:=a) (b:=b) (o:=o) (H:=H);have t1:=turned_of (W:=W) (n:=n) (H:=H) (and_ne a b o);have t2:=turned_of (W:=W) (n:=n) (H:=H) (or_ne a b o);have t3:=turned_of (W:=W) (n:=n) (H:=H) (xor_ne a b o);generalize callF P W (n+1)=cl at *;simp only[map_cons,map_nil,cons_append,nil_append,length_cons,length_nil,Nat.reduceAdd,Nat.zero_add,Nat.reduceSub,replicate_zero,replicate_succ];refine (zo (v:=(andForm a b o).v) (zL (x:=decide (k=kAnd)) (by simp only[exL,exS,evE,evL,tstE,bindT,setAll,binV,inplV,subV,biV,cmpV,truthy,QL,Nat.reduceAdd,Nat.reduceLT,Nat.reduceSub,eqV_str,kAnd]<;>rfl)) (fun _=>by simp only[exL,exS,evE,evL,tstE,bindT,setAll,binV,inplV,subV,biV,cmpV,truthy,QL,Nat.reduceAdd,Nat.reduceLT,Nat.reduceSub,h1]) fun _=>
  zo (v:=(turnOf (andForm a b o)).v) (zL (x:=decide (k=kNand)) (by simp only[exL,exS,evE,evL,tstE,bindT,setAll,binV,inplV,subV,biV,cmpV,truthy,QL,Nat.reduceAdd,Nat.reduceLT,Nat.reduceSub,eqV_str,kNand]<;>rfl)) (fun _=>by simp only[exL,exS,evE,evL,tstE,bindT,setAll,binV,inplV,subV,biV,cmpV,truthy,QL,Nat.reduceAdd,Nat.reduceLT,Nat.reduceSub,h1,t1]) fun _=>
  zo (v:=(orForm a b o).v) (zL (x:=decide (k=kOr)) (by simp only[exL,exS,evE,evL,tstE,bindT,setAll,binV,inplV,subV,biV,cmpV,truthy,QL,Nat.reduceAdd,Nat.reduceLT,Nat.reduceSub,eqV_str,kOr]<;>rfl)) (fun _=>by simp only[exL,exS,evE,evL,tstE,bindT,setAll,binV,inplV,subV,biV,cmpV,truthy,QL,Nat.reduceAdd,Nat.reduceLT,Nat.reduceSub,h2]) fun _=>
  zo (v:=(turnOf (orForm a b o)).v) (zL (x:=decide (k=kNor)) (by simp only[exL,exS,evE,evL,tstE,bindT,setAll,binV,inplV,subV,biV,cmpV,truthy,QL,Nat.reduceAdd,Nat.reduceLT,Nat.reduceSub,eqV_str,kNor]<;>rfl)) (fun _=>by simp only[exL,exS,evE,evL,tstE,bindT,setAll,binV,inplV,subV,biV,cmpV,truthy,QL,Nat.reduceAdd,Nat.reduceLT,Nat.reduceSub,h2,t2]) fun _=>
  zo (v:=(xorForm a b o).v) (zL (x:=decide (k=kXor)) (by simp only[exL,exS,evE,evL,tstE,bindT,setAll,binV,inplV,subV,biV,cmpV,truthy,QL,Nat.reduceAdd,Nat.reduceLT,Nat.reduceSub,eqV_str,kXor]<;>rfl)) (fun _=>by simp only[exL,exS,evE,evL,tstE,bindT,setAll,binV,inplV,subV,biV,cmpV,truthy,QL,Nat.reduceAdd,Nat.reduceLT,Nat.reduceSub,h3]) fun _=>zD (exS_ret (v:=(turnOf (xorForm a b o)).v) (h1:=H) (by simp only[exL,exS,evE,evL,tstE,bindT,setAll,binV,inplV,subV,biV,cmpV,truthy,QL,Nat.reduceAdd,Nat.reduceLT,Nat.reduceSub,h3,t3]))).trans ?_
 simp only[ret_ite,ite_v,zJ]
section
def Ok(r:Option (Fl × Loc × Hp))(Q:Fl→Loc→Hp→Prop):Prop:=∃ f m h,r=some (f,m,h)∧Q f m h
theorem Ok.mk{r:Option (Fl × Loc × Hp)}{Q:Fl→Loc→Hp→Prop}{f:Fl}{m:Loc}{h:Hp}(e:r=some (f,m,h))(q:Q f m h):Ok r Q:=⟨f,m,h,e,q⟩
variable {cl:Caller} {W:Nat} {ss:List S} {m:Loc} {h:Hp} {Q:Fl→Loc→Hp→Prop}
theorem zn(q:Q .next m h):Ok (exL cl W [] m h) Q:=⟨_,_,_,by unfold exL;rfl,q⟩
theorem ok_step{s:S}{m1:Loc}{h1:Hp}(e:exS cl W s m h=some (.next,m1,h1))(k:Ok (exL cl W ss m1 h1) Q):Ok (exL cl W (s::ss) m h) Q:=by
 obtain⟨f,m2,h2,e2,q⟩:=k;exact⟨f,m2,h2,zC e e2,q⟩
theorem ok_seq{s:S}(k:Ok (exS cl W s m h) (fun f m h=>(f= .next→Ok (exL cl W ss m h) Q)∧(f≠ .next→Q f m h))):Ok (exL cl W (s::ss) m h) Q:=by
 obtain⟨f,m2,h2,e2,q⟩:=k;cases f with
 | next=>exact ok_step e2 (q.1 rfl)
 | cont=>exact ⟨_,_,_,by unfold exL;simp only[e2,Option.bind_eq_bind,Option.bind_some],q.2 (by simp)⟩
 | ret v=>exact ⟨_,_,_,by unfold exL;simp only[e2,Option.bind_eq_bind,Option.bind_some],q.2 (by simp)⟩
theorem zb{t:Tgt}{e:E}{m1:Loc}{h1:Hp}{v:AV}(e1:evE cl e m [] h=some (v,h1))(e2:bindT m t v=some m1)(k:Ok (exL cl W ss m1 h1) Q):Ok (exL cl W (.assign t e::ss) m h) Q:=ok_step (zN e1 e2) k
theorem ok_expr{e:E}{h1:Hp}{v:AV}(e1:evE cl e m [] h=some (v,h1))(k:Ok (exL cl W ss m h1) Q):Ok (exL cl W (.expr e::ss) m h) Q:=ok_step (exS_expr e1) k
theorem zA{e:E}{h1:Hp}{v:AV}(e1:evE cl e m [] h=some (v,h1))(q:Q (.ret v) m h1):Ok (exL cl W (.ret e::ss) m h) Q:=⟨_,_,_,zD (exS_ret e1),q⟩
theorem ok_if{t:E}{b o:List S}{c:Bool}{h1:Hp}(e1:tstE cl t m h=some (c,h1))(k1:c=true→Ok (exL cl W b m h1) (fun f m h=>(f= .next→Ok (exL cl W ss m h) Q)∧(f≠ .next→Q f m h)))
  (k2:c=false→Ok (exL cl W o m h1) (fun f m h=>(f= .next→Ok (exL cl W ss m h) Q)∧(f≠ .next→Q f m h))):Ok (exL cl W (.ite t b o::ss) m h) Q:=by
 refine ok_seq ?_
 cases c with
 | true=>
  obtain⟨f,m2,h2,e2,q⟩:=k1 rfl;exact⟨f,m2,h2,by unfold exS;simp only[e1,Option.bind_eq_bind,Option.bind_some,if_true,e2],q⟩
 | false=>
  obtain⟨f,m2,h2,e2,q⟩:=k2 rfl;exact⟨f,m2,h2,by unfold exS;simp only[e1,Option.bind_eq_bind,Option.bind_some,Bool.false_eq_true,if_false,e2],q⟩
theorem ok_skip{t:E}{b:List S}{h1:Hp}(e1:tstE cl t m h=some (false,h1))(k:Ok (exL cl W ss m h1) Q):Ok (exL cl W (.ite t b []::ss) m h) Q:=
 ok_if e1 (fun e=>absurd e (by decide)) (fun _=>zn ⟨fun _=>k,fun q=>absurd rfl q⟩)
theorem ok_for{t:Tgt}{rng:Bool}{it:E}{b:List S}{h1:Hp}{x:AV}{vs:List AV}{gd:Option (Nat × AO)}(St:Nat→Loc→Hp→Prop)(e1:evE cl it m [] h=some (x,h1))(e2:itemsOf h1 rng x=some (vs,gd))(s0:St 0 m h1)
  (hg:∀ j m h,j≤vs.length→St j m h→guardOk h gd=true)
  (hs:∀ j v m h,vs[j]? =some v→St j m h→∃ m1,bindT m t v=some m1∧Ok (exL cl W b m1 h) (fun fl m' h'=>(∀ w,fl≠ .ret w)∧St (j+1) m' h'))
  (k:∀ m' h',St vs.length m' h'→Ok (exL cl W ss m' h') Q):Ok (exL cl W (.for_ t rng it b::ss) m h) Q:=by
 obtain⟨m',h',e,s⟩:=forIt_idx (gd:=gd) (t:=t) (body:=fun m h=>exL cl W b m h) (fun j m h=>St j m h∧j≤vs.length) (vs:=vs) (m:=m) (h:=h1) (fun j m h s=>hg j m h s.2 s.1) (fun j v m h e s=>by
  obtain⟨m1,e1,fl,m2,h2,e2,q1,q2⟩:=hs j v m h e s.1;exact⟨m1,e1,fl,m2,h2,e2,q1,q2,(gS.mp e).1⟩) ⟨s0,Nat.zero_le _⟩
 exact ok_step ((exS_for e1 e2).trans e) (k m' h' s.1)
theorem ok_range{t:Tgt}{it:E}{b:List S}{h1:Hp}{n:Nat}(St:Nat→Loc→Hp→Prop)(e1:evE cl it m [] h=some (.int n,h1))(hn:n≤1000)(s0:St 0 m h1)
  (hs:∀ j m h,j<n→St j m h→∃ m1,bindT m t (.int j)=some m1∧Ok (exL cl W b m1 h) (fun fl m' h'=>(∀ w,fl≠ .ret w)∧St (j+1) m' h'))
  (k:∀ m' h',St n m' h'→Ok (exL cl W ss m' h') Q):Ok (exL cl W (.for_ t true it b::ss) m h) Q:=by
 obtain⟨m',h',e,s⟩:=forIt_range (t:=t) (body:=fun m h=>exL cl W b m h) St (k:=n) (m:=m) (h:=h1) (fun j m h hj s=>by
  obtain⟨m1,e1,fl,m2,h2,e2,q1,q2⟩:=hs j m h hj s;exact⟨m1,e1,fl,m2,h2,e2,q1,q2⟩) s0
 exact ok_step ((exS_for e1 (items_range h1 n (zp hn))).trans e) (k m' h' s)
theorem ok_while{t:E}{b:List S}(St:Nat→Loc→Hp→Prop)(Fin:Loc→Hp→Prop)(k0:Nat)(hk:k0<W)(s0:St k0 m h)
  (hs:∀ k m h,St k m h→(∃ h',tstE cl t m h=some (false,h')∧Fin m h')∨(∃ h',tstE cl t m h=some (true,h')∧Ok (exL cl W b m h') (fun fl m' h2=>(∀ w,fl≠ .ret w)∧∃ k',k'<k∧St k' m' h2)))
  (k:∀ m' h',Fin m' h'→Ok (exL cl W ss m' h') Q):Ok (exL cl W (.while_ t b::ss) m h) Q:=by
 obtain⟨m',h',e,s⟩:=whileIt_down (test:=tstE cl t) (body:=fun m h=>exL cl W b m h) St Fin k0 W m h hk s0 (fun k m h s=>by
  rcases hs k m h s with a | ⟨h',e,fl,m2,h2,e2,q1,q2⟩
  ·exact Or.inl a
  ·exact Or.inr ⟨h',e,fl,m2,h2,e2,q1,q2⟩)
 exact ok_step (exS_while.trans e) (k m' h' s)
theorem zF{n f:Nat}{fn:Fn}{vs:List AV}{H:Hp}{Q:AV→Hp→Prop}(hf:P f=some fn)(hl:vs.length=fn.np)
  (e:Ok (exL (callF P W n) W fn.body (vs.map some++List.replicate (fn.nl - fn.np) none) H) (fun f _ h=>(∃ v,f= .ret v∧Q v h)∨(f= .next∧Q .none h))):∃ v H',callF P W (n+1) f vs H=some (v,H')∧Q v H':=by
 obtain⟨f,m,h,e,⟨v,rfl,q⟩ | ⟨rfl,q⟩⟩:=e
 ·exact⟨v,h,zz hf hl ⟨m,e⟩,q⟩
 ·exact⟨.none,h,call_end hf hl ⟨m,e⟩,q⟩
theorem comp_map{rng:Bool}{it e:E}{c:Loc}{h1:Hp}{x:AV}{vs:List AV}{gd:Option (Nat × AO)}(f:AV→AV)(e1:evE cl it m c h=some (x,h1))(e2:itemsOf h1 rng x=some (vs,gd))(hg:guardOk h1 gd=true)(hl:vs.length≤1000)
  (hf:∀ v∈vs,evE cl e m [some v] h1=some (f v,h1)):evE cl (.comp 1 (.one 0) rng it (.elt e)) m c h=some (.ref h1.length,h1++[.list (vs.map f)]):=by
 obtain⟨⟨c',h',acc⟩,e,s⟩:=loopIt_pre (hp:=fun (s:Loc × Hp × List AV)=>s.2.1) (gd:=gd) (f:=fun (s:Loc × Hp × List AV) v=>do
   let c' ← bindT s.1 (.one 0) v
   evG cl (.elt e) m c' s.2.1 s.2.2) (fun p s=>s.1.length=1∧s.2.1=h1∧s.2.2=p.map f) vs [] ([none],h1,[]) (fun p s q=>by rw[q.2.1];exact hg)
  (fun p v q s ep st=>by
   obtain⟨c,h',acc⟩:=s;obtain⟨s1,s2,s3⟩:=st;simp only at s1 s2 s3;subst s2 s3;obtain⟨y,rfl⟩:∃ y,c=[y]:=by
    cases c with
    | nil=>simp at s1
    | cons y t=>cases t with
     | nil=>exact ⟨y,rfl⟩
     | cons z t=>simp at s1
   have hv:=hf v (by rw[nil_append]at ep;rw[ep];simp)
   have hl2:p.length≤vs.length:=by rw[nil_append]at ep;rw[ep];simp
   refine⟨([some v],h',(p++[v]).map f),?_,rfl,rfl,rfl⟩
   have:(p.map f).length<lenLid:=by rw[length_map];exact zp (by omega)
   unfold evG;simp only[bindT,length_cons,length_nil,Nat.zero_add,Nat.reduceLT,if_true,Option.bind_eq_bind,Option.bind_some,set_cons_zero,hv,this,map_append,map_cons,map_nil]) ⟨rfl,rfl,rfl⟩
 simp only[nil_append]at s;obtain⟨_,rfl,rfl⟩:=s;exact evE_comp e1 e2 e
end
theorem comp_mapL{α:Type}{cl:Caller}{m c:Loc}{h:Hp}{rng:Bool}{it e:E}{h1:Hp}{x:AV}(l:List α)(g f:α→AV){gd:Option (Nat × AO)}(e1:evE cl it m c h=some (x,h1))(e2:itemsOf h1 rng x=some (l.map g,gd))(hg:guardOk h1 gd=true)(hl:l.length≤1000)
  (hf:∀ a∈l,evE cl e m [some (g a)] h1=some (f a,h1)):evE cl (.comp 1 (.one 0) rng it (.elt e)) m c h=some (.ref h1.length,h1++[.list (l.map f)]):=by
 obtain⟨⟨c',h',acc⟩,e,s⟩:=loopIt_idx (hp:=fun (s:Loc × Hp × List AV)=>s.2.1) (gd:=gd) (f:=fun (s:Loc × Hp × List AV) v=>do
   let c' ← bindT s.1 (.one 0) v
   evG cl (.elt e) m c' s.2.1 s.2.2) (fun j s=>s.1.length=1∧s.2.1=h1∧s.2.2=(l.take j).map f) (vs:=l.map g) (x:=([none],h1,[])) (fun p s q=>by rw[q.2.1];exact hg)
  (fun j v s ep st=>by
   obtain⟨c,h',acc⟩:=s;obtain⟨s1,s2,s3⟩:=st;simp only at s1 s2 s3;subst s2 s3;obtain⟨y,rfl⟩:∃ y,c=[y]:=by
    cases c with
    | nil=>simp at s1
    | cons y t=>cases t with
     | nil=>exact ⟨y,rfl⟩
     | cons z t=>simp at s1
   rw[getElem?_map]at ep;cases ha:l[j]? with
   | none=>rw[ha]at ep;simp at ep
   | some a=>
    rw[ha]at ep;simp only[Option.map_some,Option.some.injEq]at ep;subst ep;have hv:=hf a (mem_of_getElem? ha);refine⟨([some (g a)],h',(l.take (j+1)).map f),?_,rfl,rfl,rfl⟩
    have:((l.take j).map f).length<lenLid:=by rw[length_map,length_take];exact zp (by omega)
    have ht:(l.take (j+1)).map f=(l.take j).map f++[f a]:=by rw[take_add_one,ha];simp
    rw[ht];unfold evG;simp only[bindT,length_cons,length_nil,Nat.zero_add,Nat.reduceLT,if_true,Option.bind_eq_bind,Option.bind_some,set_cons_zero,hv,this]) ⟨rfl,rfl,rfl⟩
 simp only[length_map,take_length]at s;obtain⟨_,rfl,rfl⟩:=s;exact evE_comp e1 e2 e
theorem comp_filterL{α:Type}{cl:Caller}{m c:Loc}{h:Hp}{rng:Bool}{it t:E}{h1:Hp}{x:AV}(l:List α)(g:α→AV){gd:Option (Nat × AO)}(f:α→Bool)(e1:evE cl it m c h=some (x,h1))(e2:itemsOf h1 rng x=some (l.map g,gd))(hl:l.length≤1000)
  (hg:∀ T,guardOk (h1++T) gd=true) (hf:∀ a∈l,∀ T,∃ T2 y,evE cl t m [some (g a)] (h1++T)=some (y,h1++T2)∧truthy (h1++T2) y=some (f a)):∃ T,evE cl (.comp 1 (.one 0) rng it (.if_ t (.elt (.loc 0)))) m c h=some (.ref (h1++T).length,(h1++T)++[.list ((l.filter f).map g)]):=by
 obtain⟨⟨c',h',acc⟩,e,s⟩:=loopIt_idx (hp:=fun (s:Loc × Hp × List AV)=>s.2.1) (gd:=gd) (f:=fun (s:Loc × Hp × List AV) v=>do
   let c' ← bindT s.1 (.one 0) v
   evG cl (.if_ t (.elt (.loc 0))) m c' s.2.1 s.2.2) (fun j s=>s.1.length=1∧(∃ T,s.2.1=h1++T)∧s.2.2=((l.take j).filter f).map g) (vs:=l.map g) (x:=([none],h1,[])) (fun p s q=>by obtain⟨T,q⟩:=q.2.1;rw[q];exact hg T)
  (fun j v s ep st=>by
   obtain⟨c,h',acc⟩:=s;obtain⟨s1,⟨T,s2⟩,s3⟩:=st;simp only at s1 s2 s3;subst s2 s3;obtain⟨y,rfl⟩:∃ y,c=[y]:=by
    cases c with
    | nil=>simp at s1
    | cons y t=>cases t with
     | nil=>exact ⟨y,rfl⟩
     | cons z t=>simp at s1
   rw[getElem?_map]at ep;cases ha:l[j]? with
   | none=>rw[ha]at ep;simp at ep
   | some a=>
    rw[ha]at ep;simp only[Option.map_some,Option.some.injEq]at ep;subst ep;obtain⟨T2,z,hv,ht⟩:=hf a (mem_of_getElem? ha) T;have:(((l.take j).filter f).map g).length<lenLid:=by have:=length_filter_le f (l.take j);rw[length_take]at this;rw[length_map];exact zp (by omega)
    have hta:l.take (j+1)=l.take j++[a]:=by rw[take_add_one,ha];rfl
    refine⟨([some (g a)],h1++T2,((l.take (j+1)).filter f).map g),?_,rfl,⟨T2,rfl⟩,rfl⟩
    rw[hta];unfold evG;simp only[bindT,length_cons,length_nil,Nat.zero_add,Nat.reduceLT,if_true,Option.bind_eq_bind,Option.bind_some,set_cons_zero,hv,ht];cases hfv:f a with
    | true=>
     unfold evG;simp only[if_true,evE,isEmpty_cons,Bool.false_eq_true,if_false,getElem?_cons_zero,Option.bind_some,Option.bind_eq_bind,this,filter_append,filter_cons,hfv,filter_nil,map_append,map_cons,map_nil]
    | false=>
     simp only[Bool.false_eq_true,if_false,filter_append,filter_cons,hfv,filter_nil,append_nil]) ⟨rfl,⟨[],by simp⟩,rfl⟩
 simp only[length_map,take_length]at s;obtain⟨_,⟨T,rfl⟩,rfl⟩:=s;exact⟨T,evE_comp e1 e2 e⟩
abbrev za(l:List Int):List AV:=l.map .int
theorem res_ints{h:Hp}{n:Nat}(l:List Int):(za l).mapM (res h (n+1))=some (l.map D.int):=by
 induction l with
 | nil=>rfl
 | cons a l ih=>
  show ((AV.int a)::za l).mapM (res h (n+1))=_
  rw[List.mapM_cons,ih];rfl
theorem anyEq_int{h:Hp}{x:Int}{l:List Int}:anyEq h (.int x) (za l)=some (decide (x∈l)):=by
 unfold anyEq;rw[show eqFuel=23+1 from rfl,res_ints];simp only[res];congr 1
 rw[decide_eq_decide];constructor
 ·intro q
  obtain⟨y,hy,e⟩:=mem_map.mp q;cases e;exact hy
 ·intro q
  exact mem_map.mpr ⟨x,q,rfl⟩
theorem findIdx_ints(l:List Int)(x:Int)(hx:x∈l):(l.map D.int).findIdx? (fun y=>decide (y=D.int x))=some (l.idxOf x):=by
 induction l with
 | nil=>simp at hx
 | cons a l ih=>
  rw[map_cons,findIdx?_cons,idxOf_cons];by_cases q:a=x
  ·subst q;simp
  ·have q2:¬ (D.int a=D.int x):=fun e=>q (by injection e)
   have q3:(a == x)=false:=by simpa using q
   rw[mem_cons]at hx;have hx':x∈l:=by
    rcases hx with e | e
    ·exact absurd e.symm q
    ·exact e
   simp only[q2,decide_false,Bool.false_eq_true,if_false,ih hx',q3,Option.map_some,cond_false]
theorem idxEq_int{h:Hp}{x:Int}{l:List Int}(hx:x∈l):idxEq h (.int x) (za l)=some (l.idxOf x):=by
 unfold idxEq;rw[show eqFuel=23+1 from rfl,res_ints];simp only[res];exact findIdx_ints l x hx
def tbit(kept:List Int)(row:Nat)(net:Int):Nat:=if net=0∨net=1 then net.toNat else row / 2 ^ (kept.idxOf net) &&& 1
theorem table_bit_s{W n row r:Nat}{net:Int}{kept:List Int}{H:Hp}(hr:H[r]? =some (.list (za kept)))(hk:kept.length≤1000)(hm:net=0∨net=1∨net∈kept):
  callF P W (n+1) 30 [.int net,.ref r,.int row] H=some (.int (tbit kept row net:Nat),H):=by
 refine zz (fn:=f_table_bit) rfl rfl ⟨[some (.int net),some (.ref r),some (.int row)],?_⟩
 unfold f_table_bit;generalize callF P W n=cl;simp only[map_cons,map_nil,cons_append,nil_append,length_cons,length_nil,Nat.reduceAdd,Nat.zero_add,Nat.reduceSub,replicate_zero,replicate_succ];by_cases h01:net=0∨net=1
 ·have hv:(tbit kept row net:Int)=net:=by unfold tbit;rw[if_pos h01];omega
  rw[hv];have hc:(decide (net=0) || decide (net=1))=true:=by rcases h01 with rfl | rfl<;>rfl
  rw[zo (v:= .int net) (c:=true) (r:=none) ((or2 (x:=decide (net=0)) (y:=decide (net=1)) (by simp only[exL,exS,evE,evL,tstE,bindT,setAll,binV,inplV,subV,biV,cmpV,truthy,QL,Nat.reduceAdd,Nat.reduceLT,Nat.reduceSub,zt]) (by simp only[exL,exS,evE,evL,tstE,bindT,setAll,binV,inplV,subV,biV,cmpV,truthy,QL,Nat.reduceAdd,Nat.reduceLT,Nat.reduceSub,zt])).trans (by rw[hc])) (fun _=>by simp only[exL,exS,evE,evL,tstE,bindT,setAll,binV,inplV,subV,biV,cmpV,truthy,QL,Nat.reduceAdd,Nat.reduceLT,Nat.reduceSub]) (fun e=>absurd e (by decide))]
  rfl
 ·have hin:net∈kept:=by
   rcases hm with q | q | q
   ·exact absurd (Or.inl q) h01
   ·exact absurd (Or.inr q) h01
   ·exact q
  have hv:tbit kept row net=(row / 2 ^ (kept.idxOf net) &&& 1):=by unfold tbit;rw[if_neg h01]
  rw[hv];have hc:(decide (net=0) || decide (net=1))=false:=by
   rw[Bool.or_eq_false_iff,decide_eq_false_iff_not,decide_eq_false_iff_not];exact⟨fun q=>h01 (Or.inl q),fun q=>h01 (Or.inr q)⟩
  have hi:=idxEq_int (h:=H) hin;have hs:=shr_n (a:=row) (b:=kept.idxOf net) (by have:=idxOf_lt_length_iff.mpr hin;omega)
  rw[zo (v:= .none) (c:=false) (r:=some (.ret (.int (row / 2 ^ (kept.idxOf net) &&& 1:Nat)),[some (.int net),some (.ref r),some (.int row)],H)) ((or2 (x:=decide (net=0)) (y:=decide (net=1)) (by simp only[exL,exS,evE,evL,tstE,bindT,setAll,binV,inplV,subV,biV,cmpV,truthy,QL,Nat.reduceAdd,Nat.reduceLT,Nat.reduceSub,zt]) (by simp only[exL,exS,evE,evL,tstE,bindT,setAll,binV,inplV,subV,biV,cmpV,truthy,QL,Nat.reduceAdd,Nat.reduceLT,Nat.reduceSub,zt])).trans (by rw[hc])) (fun e=>absurd e (by decide)) (fun _=>zD (exS_ret (by simp only[exL,exS,evE,evL,tstE,bindT,setAll,binV,inplV,subV,biV,cmpV,truthy,QL,Nat.reduceAdd,Nat.reduceLT,Nat.reduceSub,bmOk,bmV,hr,hi,hs,band_1])))]
  rfl
def rowB:List Bool→Nat
 | []=>0
 | b::l=>b.toNat+2 * rowB l
theorem rowB_snoc(l:List Bool)(b:Bool):rowB (l++[b])=rowB l+b.toNat * 2 ^ l.length:=by
 induction l with
 | nil=>simp[rowB]
 | cons a l ih=>simp only[cons_append,rowB,ih,length_cons,Nat.pow_succ];rw[Nat.mul_add,← Nat.add_assoc,Nat.mul_comm (2 ^ l.length) 2,← Nat.mul_assoc,← Nat.mul_assoc,Nat.mul_comm b.toNat 2]
theorem rowB_lt(l:List Bool):rowB l<2 ^ l.length:=by
 induction l with
 | nil=>simp[rowB]
 | cons a l ih=>simp only[rowB,length_cons,Nat.pow_succ];cases a<;>simp<;>omega
def nz(l:List Nat):List Bool:=l.map fun x=>decide (x≠0)
theorem get_keep{H:Hp}{r:Nat}{o:AO}(T:Hp)(h:H[r]? =some o):(H++T)[r]? =some o:=Keep.push H T r o h
theorem row_number_s{W n r:Nat}{bits:List Nat}{H:Hp}(hr:H[r]? =some (.list (zf bits)))(hl:bits.length≤1000):
  callF P W (n+1) 13 [.ref r] H=some (.int (rowB (nz bits):Nat),H):=by
 obtain⟨v,H',e,rfl,rfl⟩:∃ v H',callF P W (n+1) 13 [.ref r] H=some (v,H')∧v= .int (rowB (nz bits):Nat)∧H'=H:=by
  refine zF (fn:=f_row_number) rfl rfl ?_
  unfold f_row_number;generalize callF P W n=cl;simp only[map_cons,map_nil,cons_append,nil_append,length_cons,length_nil,Nat.reduceAdd,Nat.zero_add,Nat.reduceSub,replicate_zero,replicate_succ];refine zb (m1:=[some (.ref r),some (.int 0),none]) (by simp only[exL,exS,evE,evL,tstE,bindT,setAll,binV,inplV,subV,biV,cmpV,truthy,QL,Nat.reduceAdd,Nat.reduceLT,Nat.reduceSub]<;>rfl) (by simp only[exL,exS,evE,evL,tstE,bindT,setAll,binV,inplV,subV,biV,cmpV,truthy,QL,Nat.reduceAdd,Nat.reduceLT,Nat.reduceSub]) ?_
  refine ok_range (n:=bits.length) (h1:=H) (fun j m h=>∃ x,m=[some (.ref r),some (.int (rowB (nz (bits.take j)):Nat)),x]∧h=H) (by simp only[exL,exS,evE,evL,tstE,bindT,setAll,binV,inplV,subV,biV,cmpV,truthy,QL,Nat.reduceAdd,Nat.reduceLT,Nat.reduceSub,hr,zG]) hl ⟨_,rfl,rfl⟩ ?_ ?_
  ·rintro j m h hj ⟨x,rfl,rfl⟩
   have hg:=natsV_get hj;have ht:bits.take (j+1)=bits.take j++[bits.getD j 0]:=by
    rw[take_add_one,getElem?_eq_getElem hj,getD_eq_getElem?_getD,getElem?_eq_getElem hj];rfl
   have hlt:(nz (bits.take j)).length=j:=by unfold nz;rw[length_map,length_take];omega
   refine⟨_,by simp only[exL,exS,evE,evL,tstE,bindT,setAll,binV,inplV,subV,biV,cmpV,truthy,QL,Nat.reduceAdd,Nat.reduceLT,Nat.reduceSub]<;>rfl,?_⟩
   generalize bits.getD j 0=b at *;refine ok_if (c:=decide (b≠0)) (h1:=h) (by simp only[exL,exS,evE,evL,tstE,bindT,setAll,binV,inplV,subV,biV,cmpV,truthy,QL,Nat.reduceAdd,Nat.reduceLT,Nat.reduceSub,hr,seqAt_nat,hg];congr 2;rw[decide_eq_decide];omega) ?_ ?_
   ·intro q
    refine ok_step (m1:=[some (.ref r),some (.int (rowB (nz (bits.take (j+1))):Nat)),some (.int j)]) (h1:=h) ?_ (zn ⟨fun _=>zn ⟨by simp,_,rfl,rfl⟩,fun e=>absurd rfl e⟩)
    have e1:=shl_1 (b:=j) (by omega)
    simp only[exL,exS,evE,evL,tstE,bindT,setAll,binV,inplV,subV,biV,cmpV,truthy,QL,Nat.reduceAdd,Nat.reduceLT,Nat.reduceSub,e1,add_n];rw[ht];unfold nz at *;rw[map_append,map_cons,map_nil,rowB_snoc,hlt,q];simp
   ·intro q
    refine zn ⟨fun _=>zn ⟨by simp,some (.int j),?_,rfl⟩,fun e=>absurd rfl e⟩
    rw[ht];unfold nz at *;rw[map_append,map_cons,map_nil,rowB_snoc,hlt,q];simp
  ·rintro m h ⟨x,rfl,rfl⟩
   refine zA (by simp only[exL,exS,evE,evL,tstE,bindT,setAll,binV,inplV,subV,biV,cmpV,truthy,QL,Nat.reduceAdd,Nat.reduceLT,Nat.reduceSub]<;>rfl) (Or.inl ⟨_,rfl,?_,rfl⟩)
   rw[take_length]
 exact e
def zI(ins kept:List Int)(row:Nat):List Nat:=ins.map (tbit kept row)
def overB(t:Nat)(ins kept:List Int)(row:Nat):Bool:=decide ((t / 2 ^ rowB (nz (zI ins kept row)) &&& 1)≠0)
def overS(t:Nat)(ins kept:List Int):Nat→Nat
 | 0=>0
 | n+1=>overS t ins kept n+(overB t ins kept n).toNat * 2 ^ n
theorem overS_lt(t:Nat)(ins kept:List Int)(n:Nat):overS t ins kept n<2 ^ n:=by
 induction n with
 | zero=>simp[overS]
 | succ n ih=>simp only[overS,Nat.pow_succ];cases overB t ins kept n<;>simp<;>omega
theorem pow_le8{k:Nat}(h:k≤3):2 ^ k≤8:=by
 have:k=0∨k=1∨k=2∨k=3:=by omega
 rcases this with rfl | rfl | rfl | rfl<;>decide
theorem table_over_s{W n r t:Nat}{ins kept:List Int}{H:Hp}(hr:H[r]? =some (.list (za kept)))(hk:kept.length≤3)(hi:ins.length≤3)(hm:∀ x∈ins,x=0∨x=1∨x∈kept):
  ∃ T,callF P W (n+2) 31 [.int t,.tup (za ins),.ref r] H=some (.int (overS t ins kept (2 ^ kept.length):Nat),H++T):=by
 obtain⟨v,H',e,rfl,T,rfl⟩:∃ v H',callF P W (n+2) 31 [.int t,.tup (za ins),.ref r] H=some (v,H')∧v= .int (overS t ins kept (2 ^ kept.length):Nat)∧∃ T,H'=H++T:=by
  refine zF (fn:=f_table_over) rfl rfl ?_
  unfold f_table_over;have tb:∀ T x (row:Nat),x∈ins→callF P W (n+1) 30 [.int x,.ref r,.int row] (H++T)=some (.int (tbit kept row x:Nat),H++T):=fun T x row hx=>table_bit_s (get_keep T hr) (by omega) (hm x hx)
  have rn:∀ (T:Hp) (bits:List Nat),bits.length≤1000→callF P W (n+1) 13 [.ref (H++T).length] ((H++T)++[.list (zf bits)])=some (.int (rowB (nz bits):Nat),(H++T)++[.list (zf bits)]):=fun T bits hb=>row_number_s (zE _ _) hb
  generalize callF P W (n+1)=cl at *;have hk8:=pow_le8 hk;have e1:=shl_1 (b:=kept.length) (by omega)
  simp only[map_cons,map_nil,cons_append,nil_append,length_cons,length_nil,Nat.reduceAdd,Nat.zero_add,Nat.reduceSub,replicate_zero,replicate_succ];refine zb (m1:=[some (.int t),some (.tup (za ins)),some (.ref r),some (.int 0),none,none]) (h1:=H) (by simp only[exL,exS,evE,evL,tstE,bindT,setAll,binV,inplV,subV,biV,cmpV,truthy,QL,Nat.reduceAdd,Nat.reduceLT,Nat.reduceSub]<;>rfl) (by simp only[exL,exS,evE,evL,tstE,bindT,setAll,binV,inplV,subV,biV,cmpV,truthy,QL,Nat.reduceAdd,Nat.reduceLT,Nat.reduceSub]) ?_
  refine ok_range (n:=2 ^ kept.length) (h1:=H) (fun j m h=>∃ x y,m=[some (.int t),some (.tup (za ins)),some (.ref r),some (.int (overS t ins kept j:Nat)),x,y]∧∃ T,h=H++T) (by simp only[exL,exS,evE,evL,tstE,bindT,setAll,binV,inplV,subV,biV,cmpV,truthy,QL,Nat.reduceAdd,Nat.reduceLT,Nat.reduceSub,hr,length_map,e1]) (by omega) ⟨_,_,rfl,[],by simp⟩ ?_ ?_
  ·rintro j m h hj ⟨x,y,rfl,T,rfl⟩
   refine⟨[some (.int t),some (.tup (za ins)),some (.ref r),some (.int (overS t ins kept j:Nat)),some (.int j),y],by simp only[exL,exS,evE,evL,tstE,bindT,setAll,binV,inplV,subV,biV,cmpV,truthy,QL,Nat.reduceAdd,Nat.reduceLT,Nat.reduceSub]<;>rfl,?_⟩
   have hc:=comp_mapL (cl:=cl) (rng:=false) (it:= .loc 1) (e:= .call 30 [(.loc 0),(.free 2),(.free 4)]) (m:=[some (.int t),some (.tup (za ins)),some (.ref r),some (.int (overS t ins kept j:Nat)),some (.int j),y]) (c:=[]) (h:=H++T) (h1:=H++T) ins AV.int (fun a=> .int (tbit kept j a:Nat)) (x:= .tup (za ins)) (gd:=none) (by simp only[exL,exS,evE,evL,tstE,bindT,setAll,binV,inplV,subV,biV,cmpV,truthy,QL,Nat.reduceAdd,Nat.reduceLT,Nat.reduceSub]) rfl rfl (by omega) (fun a ha=>by
    have:=tb T a j ha;simp only[exL,exS,evE,evL,tstE,bindT,setAll,binV,inplV,subV,biV,cmpV,truthy,QL,Nat.reduceAdd,Nat.reduceLT,Nat.reduceSub,this])
   have hv:ins.map (fun a=>AV.int (tbit kept j a:Nat))=zf (zI ins kept j):=by unfold zf zI;rw[map_map];rfl
   rw[hv]at hc;have hrn:=rn T (zI ins kept j) (by unfold zI;rw[length_map];omega)
   have hb8:rowB (nz (zI ins kept j))<8:=by
    have:=rowB_lt (nz (zI ins kept j));have h2:(nz (zI ins kept j)).length≤3:=by unfold nz zI;rw[length_map,length_map];exact hi
    have:=pow_le8 h2;omega
   refine zb (m1:=[some (.int t),some (.tup (za ins)),some (.ref r),some (.int (overS t ins kept j:Nat)),some (.int j),some (.ref (H++T).length)]) hc (by simp only[exL,exS,evE,evL,tstE,bindT,setAll,binV,inplV,subV,biV,cmpV,truthy,QL,Nat.reduceAdd,Nat.reduceLT,Nat.reduceSub]) ?_
   have e2:=shr_n (a:=t) (b:=rowB (nz (zI ins kept j))) (by omega)
   refine ok_if (c:=overB t ins kept j) (h1:=(H++T)++[.list (zf (zI ins kept j))]) (by
    simp only[exL,exS,evE,evL,tstE,bindT,setAll,binV,inplV,subV,biV,cmpV,truthy,QL,Nat.reduceAdd,Nat.reduceLT,Nat.reduceSub,hrn,e2,band_1];unfold overB;congr 2
    rw[decide_eq_decide];omega) ?_ ?_
   ·intro q
    have e3:=shl_1 (b:=j) (by omega)
    refine ok_step (m1:=[some (.int t),some (.tup (za ins)),some (.ref r),some (.int (overS t ins kept (j+1):Nat)),some (.int j),some (.ref (H++T).length)]) (h1:=(H++T)++[.list (zf (zI ins kept j))]) (by
     simp only[exL,exS,evE,evL,tstE,bindT,setAll,binV,inplV,subV,biV,cmpV,truthy,QL,Nat.reduceAdd,Nat.reduceLT,Nat.reduceSub,e3,add_n,overS,q,Bool.toNat_true,Nat.one_mul]) (zn ⟨fun _=>zn ⟨by simp,_,_,rfl,T++[.list (zf (zI ins kept j))],by rw[append_assoc]⟩,fun e=>absurd rfl e⟩)
   ·intro q
    refine zn ⟨fun _=>zn ⟨by simp,some (.int j),some (.ref (H++T).length),?_,T++[.list (zf (zI ins kept j))],by rw[append_assoc]⟩,fun e=>absurd rfl e⟩
    simp only[overS,q,Bool.toNat_false,Nat.zero_mul,Nat.add_zero]
  ·rintro m h ⟨x,y,rfl,T,rfl⟩
   exact zA (by simp only[exL,exS,evE,evL,tstE,bindT,setAll,binV,inplV,subV,biV,cmpV,truthy,QL,Nat.reduceAdd,Nat.reduceLT,Nat.reduceSub]<;>rfl) (Or.inl ⟨_,rfl,rfl,T,rfl⟩)
 exact⟨T,e⟩
structure F3 where
 kind:Nm
 ins:List Int
 param:AV
 deriving Repr,DecidableEq
def F3.v(f:F3):AV:= .tup [.str f.kind,.tup (za f.ins),f.param]
def zy(acc:List Int)(x:Int):List Int:=if x>1∧¬ x∈acc then acc++[x] else acc
theorem keptStep_eq(acc:List Int)(x:Int):zy acc x=if x>1∧¬ x∈acc then acc++[x] else acc:=rfl
def zq(ins:List Int):List Int:=ins.foldl zy []
theorem keptStep_len(acc:List Int)(x:Int):(zy acc x).length≤acc.length+1:=by unfold zy;split<;>simp
theorem keptFold_len(ins:List Int):∀ acc,(ins.foldl zy acc).length≤acc.length+ins.length:=by
 induction ins with
 | nil=>intro acc;simp
 | cons a l ih=>intro acc;have:=ih (zy acc a);have:=keptStep_len acc a;simp only[foldl_cons,length_cons];omega
theorem keptOf_len(ins:List Int):(zq ins).length≤ins.length:=by have:=keptFold_len ins [];simpa[zq] using this
theorem keptStep_mem(acc:List Int)(x y:Int):y∈zy acc x↔y∈acc∨(y=x∧x>1):=by
 unfold zy;split
 ·rename_i h
  rw[mem_append,mem_singleton];constructor
  ·rintro (a | a)
   ·exact Or.inl a
   ·exact Or.inr ⟨a,h.1⟩
  ·rintro (a | a)
   ·exact Or.inl a
   ·exact Or.inr a.1
 ·rename_i h
  constructor
  ·exact Or.inl
  ·rintro (a | ⟨rfl,a⟩)
   ·exact a
   ·by_cases q:y∈acc
    ·exact q
    ·exact absurd ⟨a,q⟩ h
theorem keptFold_mem(ins:List Int):∀ acc y,y∈ins.foldl zy acc↔y∈acc∨(y∈ins∧y>1):=by
 induction ins with
 | nil=>intro acc y;simp
 | cons a l ih=>
  intro acc y;rw[foldl_cons,ih,keptStep_mem,mem_cons];constructor
  ·rintro ((b | ⟨rfl,c⟩) | ⟨b,c⟩)
   ·exact Or.inl b
   ·exact Or.inr ⟨Or.inl rfl,c⟩
   ·exact Or.inr ⟨Or.inr b,c⟩
  ·rintro (b | ⟨rfl | b,c⟩)
   ·exact Or.inl (Or.inl b)
   ·exact Or.inl (Or.inr ⟨rfl,c⟩)
   ·exact Or.inr ⟨b,c⟩
theorem keptOf_mem(ins:List Int)(y:Int):y∈zq ins↔y∈ins∧y>1:=by
 unfold zq;rw[keptFold_mem];simp
theorem keptStep_nodup(acc:List Int)(x:Int)(h:acc.Nodup):(zy acc x).Nodup:=by
 unfold zy;split
 ·rename_i q
  rw[nodup_append];refine⟨h,by simp,?_⟩
  intro a ha b hb e;rw[mem_singleton]at hb;subst e hb;exact q.2 ha
 ·exact h
theorem keptFold_nodup(ins:List Int):∀ acc,acc.Nodup→(ins.foldl zy acc).Nodup:=by
 induction ins with
 | nil=>intro acc h;exact h
 | cons a l ih=>intro acc h;exact ih _ (keptStep_nodup acc a h)
theorem keptOf_nodup(ins:List Int):(zq ins).Nodup:=keptFold_nodup ins [] nodup_nil
def tsmall(t:Nat)(ins:List Int):Nat:=overS t ins (zq ins) (2 ^ (zq ins).length)
def zH(t:Nat)(ins:List Int):List Nat:=supp (tsmall t ins) (zq ins).length
def tres(t:Nat)(ins:List Int):Nat:=shrinkS (tsmall t ins) (zq ins).length (2 ^ (zH t ins).length)
def tnets(t:Nat)(ins:List Int):List Int:=(zH t ins).map fun p=>(zq ins).getD p 0
def zh(t:Nat)(ins:List Int):F3:=
 if decide ((tnets t ins).length=0)=true then ⟨kBuf,[((tres t ins &&& 1:Nat):Int)],.none⟩
 else if decide ((tnets t ins).length=1)=true then ⟨if tres t ins=2 then kBuf else kNot,tnets t ins,.none⟩
 else ⟨kLut,tnets t ins,.int (tres t ins:Nat)⟩
theorem tsmall_lt{t:Nat}{ins:List Int}(h:ins.length≤3):tsmall t ins<256:=by
 have h1:=overS_lt t ins (zq ins) (2 ^ (zq ins).length);have h2:=keptOf_len ins;have h3:2 ^ (zq ins).length≤8:=pow_le8 (by omega)
 exact Nat.lt_of_lt_of_le h1 (Nat.pow_le_pow_right (n:=2) (by decide) h3)
theorem ite_v3{c:Prop}[Decidable c]{x y:F3}:(if c then x.v else y.v)=(if c then x else y).v:=by split<;>rfl
theorem table_form_s{W n t:Nat}{ins:List Int}{H:Hp}(hi:ins.length≤3)(h0:∀ x∈ins,0≤x):
  ∃ T,callF P W (n+7) 32 [.int t,.tup (za ins)] H=some ((zh t ins).v,H++T):=by
 obtain⟨v,H',e,rfl,T,rfl⟩:∃ v H',callF P W (n+7) 32 [.int t,.tup (za ins)] H=some (v,H')∧v=(zh t ins).v∧∃ T,H'=H++T:=by
  refine zF (fn:=f_table_form) rfl rfl ?_
  unfold f_table_form;have hlen:=keptOf_len ins;have hk3:(zq ins).length≤3:=by omega
  have hto:=table_over_s (W:=W) (n:=n+4) (r:=H.length) (t:=t) (ins:=ins) (kept:=zq ins) (H:=H++[.list (za (zq ins))]) (zE _ _) hk3 hi (fun x hx=>by
   have:=h0 x hx;have:=keptOf_mem ins x;by_cases q:x>1
   ·exact Or.inr (Or.inr (this.mpr ⟨hx,q⟩))
   ·omega)
  obtain⟨T,hto⟩:=hto;have hsh:=shrink_s (W:=W) (n:=n) (t:=tsmall t ins) (k:=(zq ins).length) (H:=(H++[.list (za (zq ins))])++T) hk3 (tsmall_lt hi);change callF P W (n+6) 31 _ _=some (.int (tsmall t ins:Nat),_) at hto
  change callF P W (n+6) 20 _ _=some (.tup [.int (tres t ins:Nat),.ref ((H++[AO.list (za (zq ins))])++T).length],((H++[AO.list (za (zq ins))])++T)++[AO.list (zf (zH t ins))]) at hsh
  generalize callF P W (n+6)=cl at *;simp only[map_cons,map_nil,cons_append,nil_append,length_cons,length_nil,Nat.reduceAdd,Nat.zero_add,Nat.reduceSub,replicate_zero,replicate_succ];refine zb (m1:=[some (.int t),some (.tup (za ins)),some (.ref H.length),none,none,none,none]) (h1:=H++[.list []]) (by simp only[exL,exS,evE,evL,tstE,bindT,setAll,binV,inplV,subV,biV,cmpV,truthy,QL,Nat.reduceAdd,Nat.reduceLT,Nat.reduceSub]<;>rfl) (by simp only[exL,exS,evE,evL,tstE,bindT,setAll,binV,inplV,subV,biV,cmpV,truthy,QL,Nat.reduceAdd,Nat.reduceLT,Nat.reduceSub]) ?_
  refine ok_for (vs:=za ins) (gd:=none) (x:= .tup (za ins)) (h1:=H++[.list []]) (fun j m h=>∃ x,m=[some (.int t),some (.tup (za ins)),some (.ref H.length),x,none,none,none]∧h=H++[.list (za ((ins.take j).foldl zy []))]) (by simp only[exL,exS,evE,evL,tstE,bindT,setAll,binV,inplV,subV,biV,cmpV,truthy,QL,Nat.reduceAdd,Nat.reduceLT,Nat.reduceSub]) rfl ⟨_,rfl,rfl⟩ (fun _ _ _ _ _=>rfl) ?_ ?_
  ·rintro j v m h hj ⟨x,rfl,rfl⟩
   unfold za at hj;rw[getElem?_map]at hj;cases ha:ins[j]? with
   | none=>rw[ha]at hj;simp at hj
   | some a=>
    rw[ha]at hj;simp only[Option.map_some,Option.some.injEq]at hj;subst hj;refine⟨_,by simp only[exL,exS,evE,evL,tstE,bindT,setAll,binV,inplV,subV,biV,cmpV,truthy,QL,Nat.reduceAdd,Nat.reduceLT,Nat.reduceSub]<;>rfl,?_⟩
    have ht:ins.take (j+1)=ins.take j++[a]:=by rw[take_add_one,ha];rfl
    have hc:containsV (H++[.list (za ((ins.take j).foldl zy []))]) (.int a) (.ref H.length)=some (decide (a∈(ins.take j).foldl zy [])):=by
     unfold containsV;simp only[zE];exact anyEq_int
    have hjl:j<ins.length:=(gS.mp ha).1;have hfl:=keptFold_len (ins.take j) [];rw[length_take,length_nil]at hfl;have hl:(za ((ins.take j).foldl zy [])).length<lenLid:=by unfold za;rw[length_map];exact zp (by omega)
    refine ok_if (c:=decide (a>1)&& !decide (a∈(ins.take j).foldl zy [])) (and2 (by simp only[exL,exS,evE,evL,tstE,bindT,setAll,binV,inplV,subV,biV,cmpV,truthy,QL,Nat.reduceAdd,Nat.reduceLT,Nat.reduceSub]) (by simp only[exL,exS,evE,evL,tstE,bindT,setAll,binV,inplV,subV,biV,cmpV,truthy,QL,Nat.reduceAdd,Nat.reduceLT,Nat.reduceSub,hc])) ?_ ?_
    ·intro q
     have hs:zy ((ins.take j).foldl zy []) a=(ins.take j).foldl zy []++[a]:=by
      rw[keptStep_eq,if_pos];simpa using q
     refine ok_expr (v:= .none) (h1:=H++[.list (za ((ins.take (j+1)).foldl zy []))]) ?_ (zn ⟨fun _=>zn ⟨by simp,_,rfl,rfl⟩,fun e=>absurd rfl e⟩)
     simp only[exL,exS,evE,evL,tstE,bindT,setAll,binV,inplV,subV,biV,cmpV,truthy,QL,Nat.reduceAdd,Nat.reduceLT,Nat.reduceSub,bmOk,bmV,zE,hl,set_last];rw[ht,foldl_append,foldl_cons,foldl_nil,hs];unfold za;rw[map_append,map_cons,map_nil]
    ·intro q
     have hs:zy ((ins.take j).foldl zy []) a=(ins.take j).foldl zy []:=by
      rw[keptStep_eq,if_neg];simpa using q
     refine zn ⟨fun _=>zn ⟨by simp,_,rfl,?_⟩,fun e=>absurd rfl e⟩
     rw[ht,foldl_append,foldl_cons,foldl_nil,hs]
  ·rintro m h ⟨x,rfl,rfl⟩
   unfold za;rw[length_map,take_length];change Ok (exL cl W _ _ (H++[.list (za (zq ins))])) _
   have hkl:(H++[AO.list (za (zq ins))])[H.length]? =some (.list (za (zq ins))):=zE _ _;have hkl2:=get_keep T hkl;have hkl3:=get_keep [.list (zf (zH t ins))] hkl2;have hpl:(((H++[AO.list (za (zq ins))])++T)++[AO.list (zf (zH t ins))])[((H++[AO.list (za (zq ins))])++T).length]? =some (.list (zf (zH t ins))):=zE _ _;have hil:(za (zq ins)).length=(zq ins).length:=length_map _;generalize hX:(H++[AO.list (za (zq ins))])=X at *;generalize hY:X++T=Y at *;have hts:=zH t ins;have hb:∀ p∈zH t ins,p<(zq ins).length:=fun p hp=>supp_mem hp
   have hlp:(zH t ins).length≤(zq ins).length:=supp_le _ _;refine zb (v:= .tup [.int (tres t ins:Nat),.ref Y.length]) (h1:=Y++[.list (zf (zH t ins))]) (m1:=[some (.int t),some (.tup (za ins)),some (.ref H.length),x,some (.int (tres t ins:Nat)),some (.ref Y.length),none])
    (zi (vs:=[.int (tsmall t ins:Nat),.int ((zq ins).length:Nat)]) (h1:=Y) (by
     unfold evL;rw[zi (vs:=[.int t,.tup (za ins),.ref H.length]) (h1:=X) (by simp only[exL,exS,evE,evL,tstE,bindT,setAll,binV,inplV,subV,biV,cmpV,truthy,QL,Nat.reduceAdd,Nat.reduceLT,Nat.reduceSub]) hto]
     simp only[exL,exS,evE,evL,tstE,bindT,setAll,binV,inplV,subV,biV,cmpV,truthy,QL,Nat.reduceAdd,Nat.reduceLT,Nat.reduceSub,hkl2,hil]) hsh) (by simp only[exL,exS,evE,evL,tstE,bindT,setAll,binV,inplV,subV,biV,cmpV,truthy,QL,Nat.reduceAdd,Nat.reduceLT,Nat.reduceSub]) ?_
   have hc:=comp_mapL (cl:=cl) (rng:=false) (it:= .loc 5) (e:= .sub (.free 2) (.loc 0)) (m:=[some (.int t),some (.tup (za ins)),some (.ref H.length),x,some (.int (tres t ins:Nat)),some (.ref Y.length),none]) (c:=[]) (h:=Y++[.list (zf (zH t ins))]) (h1:=Y++[.list (zf (zH t ins))]) (zH t ins) (fun (p:Nat)=>AV.int p) (fun p=> .int ((zq ins).getD p 0)) (x:= .ref Y.length) (by simp only[exL,exS,evE,evL,tstE,bindT,setAll,binV,inplV,subV,biV,cmpV,truthy,QL,Nat.reduceAdd,Nat.reduceLT,Nat.reduceSub]) (zg _ _ _ hpl) (by unfold guardOk;simp[hpl,zf]) (by omega) (fun a ha=>by
    have h1:=hb a ha;have h2:(za (zq ins))[a]? =some (.int ((zq ins).getD a 0)):=by
     unfold za;rw[getElem?_map,getD_eq_getElem?_getD,getElem?_eq_getElem h1];rfl
    simp only[exL,exS,evE,evL,tstE,bindT,setAll,binV,inplV,subV,biV,cmpV,truthy,QL,Nat.reduceAdd,Nat.reduceLT,Nat.reduceSub,hkl3,seqAt_nat,h2])
   have hv:(zH t ins).map (fun p=>AV.int ((zq ins).getD p 0))=za (tnets t ins):=by unfold za tnets;rw[map_map];rfl
   rw[hv]at hc;have hnl:(za (tnets t ins)).length=(tnets t ins).length:=length_map _;refine zb (v:= .tup (za (tnets t ins))) (h1:=(Y++[.list (zf (zH t ins))])++[.list (za (tnets t ins))]) (m1:=[some (.int t),some (.tup (za ins)),some (.ref H.length),x,some (.int (tres t ins:Nat)),some (.ref Y.length),some (.tup (za (tnets t ins)))]) (by
    unfold evE;simp only[evL,hc,Option.bind_eq_bind,Option.bind_some,Option.pure_def,biV,zE]) (by simp only[exL,exS,evE,evL,tstE,bindT,setAll,binV,inplV,subV,biV,cmpV,truthy,QL,Nat.reduceAdd,Nat.reduceLT,Nat.reduceSub]) ?_
   refine Ok.mk (f:= .ret (zh t ins).v) (m:=[some (.int t),some (.tup (za ins)),some (.ref H.length),x,some (.int (tres t ins:Nat)),some (.ref Y.length),some (.tup (za (tnets t ins)))]) (h:=(Y++[.list (zf (zH t ins))])++[.list (za (tnets t ins))]) ?_ (Or.inl ⟨_,rfl,rfl,[.list (za (zq ins))]++T++[.list (zf (zH t ins))]++[.list (za (tnets t ins))],by rw[← hY,← hX];simp⟩)
   generalize (Y++[.list (zf (zH t ins))])++[.list (za (tnets t ins))]=Z;refine (zo (v:=F3.v ⟨kBuf,[((tres t ins &&& 1:Nat):Int)],.none⟩) (zL (x:=decide ((tnets t ins).length=0)) (by simp only[exL,exS,evE,evL,tstE,bindT,setAll,binV,inplV,subV,biV,cmpV,truthy,QL,Nat.reduceAdd,Nat.reduceLT,Nat.reduceSub,hnl,zt];congr 3;rw[decide_eq_decide];omega)) (fun _=>by simp only[exL,exS,evE,evL,tstE,bindT,setAll,binV,inplV,subV,biV,cmpV,truthy,QL,Nat.reduceAdd,Nat.reduceLT,Nat.reduceSub,band_1]<;>rfl) fun _=>
    zo (v:=F3.v ⟨if tres t ins=2 then kBuf else kNot,tnets t ins,.none⟩) (zL (x:=decide ((tnets t ins).length=1)) (by simp only[exL,exS,evE,evL,tstE,bindT,setAll,binV,inplV,subV,biV,cmpV,truthy,QL,Nat.reduceAdd,Nat.reduceLT,Nat.reduceSub,hnl,zt];congr 3;rw[decide_eq_decide];omega)) (fun _=>by
     have e2:decide (((tres t ins:Nat):Int)=2)=decide (tres t ins=2):=by rw[decide_eq_decide];omega
     simp only[exL,exS,evE,evL,tstE,bindT,setAll,binV,inplV,subV,biV,cmpV,truthy,QL,Nat.reduceAdd,Nat.reduceLT,Nat.reduceSub,zt,e2];by_cases q:tres t ins=2
     ·simp only[q,decide_true,if_true];rfl
     ·simp only[q,decide_false,Bool.false_eq_true,if_false];rfl) fun _=>zD (exS_ret (v:=F3.v ⟨kLut,tnets t ins,.int (tres t ins:Nat)⟩) (h1:=Z) (by simp only[exL,exS,evE,evL,tstE,bindT,setAll,binV,inplV,subV,biV,cmpV,truthy,QL,Nat.reduceAdd,Nat.reduceLT,Nat.reduceSub]<;>rfl))).trans ?_
   simp only[ret_ite,ite_v3,zh]
 exact⟨T,e⟩
def DictI(H:Hp)(r:Nat)(f:Int→Option Int)(n:Nat):Prop:=∃ es,H[r]? =some (.dict es)∧es.length≤n∧∀ x,dfind es (.int x)=(f x).map .int
theorem DictI.keep{H H':Hp}{r:Nat}{f:Int→Option Int}{n:Nat}(k:Keep H H')(d:DictI H r f n):DictI H' r f n:=by
 obtain⟨es,a,b,c⟩:=d;exact⟨es,k _ _ a,b,c⟩
theorem DictI.get{H:Hp}{r:Nat}{f:Int→Option Int}{n:Nat}(d:DictI H r f n)(x y:Int):bmV H .get (.ref r) [.int x,.int y]=some (.int ((f x).getD y),H):=by
 obtain⟨es,a,b,c⟩:=d;simp only[bmV,a,isKey,if_true,c];cases f x<;>rfl
theorem DictI.ok{H:Hp}{r:Nat}{f:Int→Option Int}{n:Nat}(d:DictI H r f n):bmOk H .get (.ref r)=true:=by
 obtain⟨es,a,b,c⟩:=d;simp only[bmOk,a]
theorem DictI.has{H:Hp}{r:Nat}{f:Int→Option Int}{n:Nat}(d:DictI H r f n)(x:Int):containsV H (.int x) (.ref r)=some (f x).isSome:=by
 obtain⟨es,a,b,c⟩:=d;simp only[containsV,a,isKey,if_true,c,Option.isSome_map]
theorem DictI.sub{H:Hp}{r:Nat}{f:Int→Option Int}{n:Nat}(d:DictI H r f n){x y:Int}(h:f x=some y):subV H (.ref r) (.int x)=some (.int y):=by
 obtain⟨es,a,b,c⟩:=d;simp only[subV,a,isKey,if_true,c,h,Option.map_some]
theorem dfind_dput(es:List (AV × AV))(k k' v:AV):dfind (dput es k v) k'=if k=k' then some v else dfind es k':=by
 induction es with
 | nil=>simp[dput,dfind]
 | cons p r ih=>
  obtain⟨a,x⟩:=p;unfold dput;by_cases h:a=k
  ·rw[if_pos h]
   subst h;by_cases h2:a=k'
   ·simp[dfind,h2]
   ·simp[dfind,h2]
  ·rw[if_neg h]
   unfold dfind;by_cases h2:a=k'
   ·have:¬ k=k':=fun e=>h (h2.trans e.symm)
    simp[h2,this]
   ·simp only[h2,if_false,ih]
theorem dput_len(es:List (AV × AV))(k v:AV):(dput es k v).length≤es.length+1:=by
 induction es with
 | nil=>simp[dput]
 | cons p r ih=>
  obtain⟨a,x⟩:=p;unfold dput;split<;>simp[ih]
def upd(f:Int→Option Int)(x y:Int):Int→Option Int:=fun z=>if x=z then some y else f z
theorem zB(H:Hp)(r:Nat)(o:AO)(h:r<H.length):(H.set r o)[r]? =some o:=by
 rw[getElem?_set_self h]
theorem DictI.put{H:Hp}{r:Nat}{f:Int→Option Int}{n:Nat}(d:DictI H r f n)(x y:Int)(hn:n<1000):∃ o,setSubV H (.ref r) (.int x) (.int y)=some (H.set r o)∧DictI (H.set r o) r (upd f x y) (n+1):=by
 obtain⟨es,a,b,c⟩:=d;refine⟨.dict (dput es (.int x) (.int y)),?_,dput es (.int x) (.int y),zB _ _ _ (gS.mp a).1,by have:=dput_len es (.int x) (.int y);omega,?_⟩
 ·simp only[setSubV,a,isKey]
  rw[if_pos ⟨trivial,Nat.lt_of_le_of_lt b (zp (by omega))⟩]
 ·intro z
  rw[dfind_dput];unfold upd;by_cases q:x=z
  ·subst q;simp
  ·have:¬ AV.int x=AV.int z:=fun e=>q (by injection e)
   simp only[q,this,if_false,c]
theorem DictI.other{H:Hp}{r r2:Nat}{f:Int→Option Int}{n:Nat}{o:AO}(d:DictI H r f n)(h:r2≠r):DictI (H.set r2 o) r f n:=by
 obtain⟨es,a,b,c⟩:=d;exact⟨es,by rw[getElem?_set_ne h];exact a,b,c⟩
theorem DictI.new{H:Hp}:DictI (H++[.dict []]) H.length (fun _=>none) 0:=⟨[],zE _ _,Nat.le_refl _,fun _=>rfl⟩
def opp(inv:Int→Option Int)(a b:Int):Bool:=decide ((inv a).getD (-1)=b) || decide ((inv b).getD (-1)=a)
theorem are_opposite_s{W n r N:Nat}{a b:Int}{inv:Int→Option Int}{H:Hp}(hr:DictI H r inv N):callF P W (n+1) 33 [.ref r,.int a,.int b] H=some (.bool (opp inv a b),H):=by
 refine zz (fn:=f_are_opposite) rfl rfl ⟨[some (.ref r),some (.int a),some (.int b)],?_⟩
 unfold f_are_opposite;generalize callF P W n=cl;simp only[map_cons,map_nil,cons_append,nil_append,length_cons,length_nil,Nat.reduceAdd,Nat.zero_add,Nat.reduceSub,replicate_zero,replicate_succ];have g1:=hr.get a (-1);have g2:=hr.get b (-1);have ok:=hr.ok;refine zD (exS_ret ?_)
 unfold evE opp;simp only[evB,exL,exS,evE,evL,tstE,bindT,setAll,binV,inplV,subV,biV,cmpV,truthy,QL,Nat.reduceAdd,Nat.reduceLT,Nat.reduceSub,ok,g1,g2,zt];cases decide ((inv a).getD (-1)=b)<;>simp[truthy]
def ctab(k:Nm)(p:AV):Nat:=match p with
 | .int t=>t.toNat
 | .tup [_,.int t]=>t.toNat
 | _=>if k=kBuf then 2 else if k=kNot then 1 else if k=kAnd then 8 else if k=kOr then 14 else if k=kXor then 6 else if k=kNand then 7 else if k=kNor then 1 else if k=kXnor then 9 else if k=kMux then 228 else 0
def libForm(ins:List Int)(p:AV):F3:=if decide ((zh (ctab kCell p) ins).kind=kLut)=true then ⟨kCell,ins,p⟩ else ⟨(zh (ctab kCell p) ins).kind,(zh (ctab kCell p) ins).ins,.none⟩
theorem library_form_s{W n t:Nat}{nm:Nm}{ins:List Int}{H:Hp}(hi:ins.length≤3)(h0:∀ x∈ins,0≤x):
  ∃ T,callF P W (n+8) 34 [.tup (za ins),.tup [.str nm,.int t]] H=some ((libForm ins (.tup [.str nm,.int t])).v,H++T):=by
 obtain⟨T,ht⟩:=table_form_s (W:=W) (n:=n) (t:=t) (ins:=ins) (H:=H) hi h0;refine⟨T,zz (fn:=f_library_form) rfl rfl ⟨[some (.tup (za ins)),some (.tup [.str nm,.int t]),some (.str (zh t ins).kind),some (.tup (za (zh t ins).ins)),some (zh t ins).param],?_⟩⟩
 unfold f_library_form;generalize callF P W (n+7)=cl at *;have hct:ctab kCell (.tup [.str nm,.int t])=t:=by unfold ctab;simp
 unfold libForm;rw[hct];generalize zh t ins=f at *;simp only[map_cons,map_nil,cons_append,nil_append,length_cons,length_nil,Nat.reduceAdd,Nat.zero_add,Nat.reduceSub,replicate_zero,replicate_succ];refine zC (zN (v:=f.v) (h1:=H++T) (zi (vs:=[.int t,.tup (za ins)]) (h1:=H) (by simp only[exL,exS,evE,evL,tstE,bindT,setAll,binV,inplV,subV,biV,cmpV,truthy,QL,Nat.reduceAdd,Nat.reduceLT,Nat.reduceSub,seqAt_1]) ht) (by unfold F3.v;simp only[exL,exS,evE,evL,tstE,bindT,setAll,binV,inplV,subV,biV,cmpV,truthy,QL,Nat.reduceAdd,Nat.reduceLT,Nat.reduceSub]<;>rfl)) ?_
 refine (zo (v:=F3.v ⟨kCell,ins,.tup [.str nm,.int t]⟩) (zL (x:=decide (f.kind=kLut)) (by simp only[exL,exS,evE,evL,tstE,bindT,setAll,binV,inplV,subV,biV,cmpV,truthy,QL,Nat.reduceAdd,Nat.reduceLT,Nat.reduceSub,eqV_str,kLut]<;>rfl)) (fun _=>by simp only[exL,exS,evE,evL,tstE,bindT,setAll,binV,inplV,subV,biV,cmpV,truthy,QL,Nat.reduceAdd,Nat.reduceLT,Nat.reduceSub]<;>rfl) fun _=>zD (exS_ret (v:=F3.v ⟨f.kind,f.ins,.none⟩) (h1:=H++T) (by simp only[exL,exS,evE,evL,tstE,bindT,setAll,binV,inplV,subV,biV,cmpV,truthy,QL,Nat.reduceAdd,Nat.reduceLT,Nat.reduceSub]<;>rfl))).trans ?_
 simp only[ret_ite,ite_v3]
def locG:Loc→Nat→Hp→Option (AV × Hp)
 | [],_,_=>none
 | some v::_,0,h=>some (v,h)
 | none::_,0,_=>none
 | _::m,i+1,h=>locG m i h
def putG:Loc→Nat→AV→Option Loc
 | [],_,_=>none
 | _::m,0,v=>some (some v::m)
 | x::m,i+1,v=>(putG m i v).map (x:: ·)
theorem locG_eq(m:Loc)(i:Nat)(h:Hp):(match m[i]? with
  | some (some v)=>some (v,h)
  | _=>none)=locG m i h:=by
 induction m generalizing i with
 | nil=>rfl
 | cons x m ih=>
  cases i with
  | zero=>cases x<;>rfl
  | succ i=>cases x<;>exact ih i
theorem putG_eq(m:Loc)(i:Nat)(v:AV):(if i<m.length then some (m.set i (some v)) else none)=putG m i v:=by
 induction m generalizing i with
 | nil=>rfl
 | cons x m ih=>
  cases i with
  | zero=>simp[putG]
  | succ i=>rw[putG,← ih i];simp only[length_cons,Nat.add_lt_add_iff_right,set_cons_succ];split<;>rfl
theorem evE_loc(cl:Caller)(i:Nat)(m:Loc)(h:Hp):evE cl (.loc i) m [] h=locG m i h:=by unfold evE;exact locG_eq m i h
theorem evE_loc2(cl:Caller)(i:Nat)(m c:Loc)(x:Option AV)(h:Hp):evE cl (.loc i) m (x::c) h=locG (x::c) i h:=by unfold evE;exact locG_eq _ i h
theorem evE_free(cl:Caller)(i:Nat)(m c:Loc)(h:Hp):evE cl (.free i) m c h=locG m i h:=by unfold evE;exact locG_eq m i h
theorem bindT_one(m:Loc)(i:Nat)(v:AV):bindT m (.one i) v=putG m i v:=putG_eq m i v
theorem setAllC(m:Loc)(i:Nat)(is:List Nat)(v:AV)(vs:List AV):setAll m (i::is) (v::vs)=(putG m i v).bind fun m=>setAll m is vs:=by
 rw[← putG_eq,setAll];split<;>rfl
theorem QX:
 (∀ cl v m c h,evE cl (.const v) m c h=some (v,h))∧
 (∀ cl i m h,evE cl (.loc i) m [] h=locG m i h)∧(∀ cl i m x c h,evE cl (.loc i) m (x::c) h=locG (x::c) i h)∧(∀ cl i m c h,evE cl (.free i) m c h=locG m i h)∧
 (∀ v m h,locG (some v::m) 0 h=some (v,h))∧(∀ x m i h,locG (x::m) (i+1) h=locG m i h)∧
 (∀ x m v,putG (x::m) 0 v=some (some v::m))∧(∀ x m i v,putG (x::m) (i+1) v=(putG m i v).map (x:: ·))∧
 (∀ m i v,bindT m (.one i) v=putG m i v)∧(∀ m is vs,bindT m (.many is) (.tup vs)=setAll m is vs)∧
 (∀ m i is v vs,setAll m (i::is) (v::vs)=(putG m i v).bind fun m=>setAll m is vs)∧(∀ m,setAll m [] []=some m)∧
 (∀ cl o a b m c h,evE cl (.bin o a b) m c h=(evE cl a m c h).bind fun p=>(evE cl b m c p.2).bind fun q=>binV q.2 o p.1 q.1)∧
 (∀ cl a m c h,evE cl (.not a) m c h=(evE cl a m c h).bind fun p=>(truthy p.2 p.1).map fun b=>(.bool (!b),p.2))∧
 (∀ cl i m c h,evE cl (.neg (.const (.int i))) m c h=some (.int (-i),h))∧
 (∀ cl o a b m c h,evE cl (.cmp o a b) m c h=(evE cl a m c h).bind fun p=>(evE cl b m c p.2).bind fun q=>(cmpV q.2 o p.1 q.1).map fun r=>(.bool r,q.2))∧
 (∀ cl t a b m c h,evE cl (.ite t a b) m c h=(evE cl t m c h).bind fun p=>(truthy p.2 p.1).bind fun r=>if r then evE cl a m c p.2 else evE cl b m c p.2)∧
 (∀ cl es m c h,evE cl (.tup es) m c h=(evL cl es m c h).map fun p=>(.tup p.1,p.2))∧
 (∀ cl es m c h,evE cl (.list es) m c h=(evL cl es m c h).map fun p=>(.ref p.2.length,p.2++[.list p.1]))∧
 (∀ cl es m c h,evE cl (.dict es) m c h=(evL cl es m c h).bind fun p=>(pairUp p.1).map fun ps=>(.ref p.2.length,p.2++[.dict (dictOfPairs ps)]))∧
 (∀ cl o n m c h,evE cl (.attr o n) m c h=(evE cl o m c h).bind fun p=>(attrV p.2 p.1 n).map fun v=>(v,p.2))∧
 (∀ cl o i m c h,evE cl (.sub o i) m c h=(evE cl o m c h).bind fun p=>(evE cl i m c p.2).bind fun q=>(subV q.2 p.1 q.1).map fun v=>(v,q.2))∧
 (∀ cl f es m c h,evE cl (.call f es) m c h=(evL cl es m c h).bind fun p=>cl f p.1 p.2)∧
 (∀ cl b es m c h,evE cl (.bi b es) m c h=(evL cl es m c h).bind fun p=>biV p.2 b p.1)∧
 (∀ cl b o es m c h,evE cl (.bm b o es) m c h=(evE cl o m c h).bind fun p=>if bmOk p.2 b p.1 then (evL cl es m c p.2).bind fun q=>bmV q.2 b p.1 q.1 else none)∧
 (∀ cl m c h,evL cl [] m c h=some ([],h))∧
 (∀ cl e es m c h,evL cl (e::es) m c h=(evE cl e m c h).bind fun p=>(evL cl es m c p.2).map fun q=>(p.1::q.1,q.2))∧
 (∀ cl e m h,tstE cl e m h=(evE cl e m [] h).bind fun p=>(truthy p.2 p.1).map fun t=>(t,p.2))∧
 (∀ h b,truthy h (.bool b)=some b)∧(∀ h i,truthy h (.int i)=some (decide (i≠0)))∧
 (∀ h a b,cmpV h .eq a b=eqV h a b)∧(∀ h a b,cmpV h .ne a b=(eqV h a b).map (!·))∧(∀ h a b,cmpV h .in_ a b=containsV h a b)∧(∀ h a b,cmpV h .notIn a b=(containsV h a b).map (!·))∧
 (∀ h a b,cmpV h .lt (.int a) (.int b)=some (decide (a<b)))∧(∀ h a b,cmpV h .gt (.int a) (.int b)=some (decide (a>b)))∧(∀ h a b,cmpV h .ge (.int a) (.int b)=some (decide (a≥b)))∧
 (∀ h a b,eqV h (.int a) (.int b)=some (decide (a=b)))∧(∀ h a b,eqV h (.str a) (.str b)=some (decide (a=b)))∧
 (∀ h o a b,binV h o (.int a) (.int b)=(intOp o a b).map fun z=>(.int z,h))∧(∀ h o a b,inplV h o (.int a) (.int b)=(intOp o a b).map fun z=>(.int z,h))∧
 (∀ a b,intOp .add a b=some (a+b))∧(∀ a b,intOp .sub a b=some (a - b))∧
 (∀ h vs i,subV h (.tup vs) (.int i)=seqAt vs i)∧(∀ v vs,seqAt (v::vs) 0=some v)∧(∀ v w vs,seqAt (v::w::vs) 1=some w)∧(∀ v w x vs,seqAt (v::w::x::vs) 2=some x)∧(∀ v w x y vs,seqAt (v::w::x::y::vs) 3=some y)∧
 (∀ h vs,biV h .len [.tup vs]=some (.int vs.length,h))∧
 (∀ (α β:Type) (a:α) (f:α→Option β),Option.bind (some a) f=f a)∧(∀ (α β:Type) (a:α) (f:α→β),Option.map f (some a)=some (f a))∧(∀ (α:Type) (i:Decidable True) (a b:α),@ite α True i a b=a)∧(∀ (α:Type) (i:Decidable False) (a b:α),@ite α False i a b=b)∧((false=true)=False)∧(∀ i:Decidable True,@decide True i=true)∧(∀ i:Decidable False,@decide False i=false):=by
 refine⟨fun _ _ _ _ _=>rfl,evE_loc,fun _ _ _ _ _ _=>evE_loc2 _ _ _ _ _ _,evE_free,fun _ _ _=>rfl,fun x _ _ _=>by cases x<;>rfl,fun _ _ _=>rfl,fun _ _ _ _=>rfl,bindT_one,fun _ _ _=>rfl,setAllC,fun _=>rfl,
  ?_,?_,?_,?_,?_,?_,?_,?_,?_,?_,?_,?_,?_,?_,?_,?_,fun _ _=>rfl,fun _ _=>rfl,fun _ _ _=>rfl,fun _ _ _=>rfl,fun _ _ _=>rfl,fun _ _ _=>rfl,fun _ _ _=>rfl,fun _ _ _=>rfl,fun _ _ _=>rfl,
  zt,eqV_str,fun _ _ _ _=>rfl,fun _ _ _ _=>rfl,fun _ _=>rfl,fun _ _=>rfl,fun _ _ _=>rfl,fun _ _=>rfl,fun _ _ _=>rfl,fun _ _ _ _=>rfl,fun _ _ _ _ _=>rfl,fun _ _=>rfl,fun _ _ _ _=>rfl,fun _ _ _ _=>rfl,fun _ _ _ _=>if_pos trivial,fun _ _ _ _=>if_neg not_false,Bool.false_eq_true,fun _=>decide_eq_true trivial,fun _=>decide_eq_false not_false⟩
 ·intro cl o a b m c h;rw[evE];rcases evE cl a m c h with _ | ⟨x,h⟩<;>rfl
 ·intro cl a m c h;rw[evE];rcases evE cl a m c h with _ | ⟨x,h⟩
  ·rfl
  ·cases e:truthy h x<;>simp[e]
 ·intro cl i m c h;rw[evE,evE];rfl
 ·intro cl o a b m c h;rw[evE];rcases evE cl a m c h with _ | ⟨x,h⟩
  ·rfl
  ·rcases e:evE cl b m c h with _ | ⟨y,h⟩
   ·simp[e]
   ·simp only[Option.bind_eq_bind,Option.bind_some,e];cases cmpV h o x y<;>rfl
 ·intro cl t a b m c h;rw[evE];rcases evE cl t m c h with _ | ⟨x,h⟩<;>rfl
 ·intro cl es m c h;rw[evE];rcases evL cl es m c h with _ | ⟨x,h⟩<;>rfl
 ·intro cl es m c h;rw[evE];rcases evL cl es m c h with _ | ⟨x,h⟩<;>rfl
 ·intro cl es m c h;rw[evE];rcases evL cl es m c h with _ | ⟨x,h⟩
  ·rfl
  ·simp only[Option.bind_eq_bind,Option.bind_some];cases pairUp x<;>rfl
 ·intro cl o n m c h;rw[evE];rcases evE cl o m c h with _ | ⟨x,h⟩
  ·rfl
  ·simp only[Option.bind_eq_bind,Option.bind_some];cases attrV h x n<;>rfl
 ·intro cl a b m c h;rw[evE];rcases evE cl a m c h with _ | ⟨x,h⟩
  ·rfl
  ·rcases e:evE cl b m c h with _ | ⟨y,h⟩
   ·simp[e]
   ·simp only[Option.bind_eq_bind,Option.bind_some,e];cases subV h x y<;>rfl
 ·intro cl f es m c h;rw[evE];rcases evL cl es m c h with _ | ⟨x,h⟩<;>rfl
 ·intro cl f es m c h;rw[evE];rcases evL cl es m c h with _ | ⟨x,h⟩<;>rfl
 ·intro cl b o es m c h;rw[evE];rcases evE cl o m c h with _ | ⟨x,h⟩<;>rfl
 ·intro cl m c h;rw[evL]
 ·intro cl e es m c h;rw[evL];rcases evE cl e m c h with _ | ⟨x,h⟩
  ·rfl
  ·simp only[Option.bind_eq_bind,Option.bind_some];rcases evL cl es m c h with _ | ⟨y,h⟩<;>rfl
 ·intro cl e m h;rw[tstE];rcases evE cl e m [] h with _ | ⟨x,h⟩
  ·rfl
  ·simp only[Option.bind_eq_bind,Option.bind_some];cases truthy h x<;>rfl
theorem SK:(([98,117,102]:Nm)=kBuf)∧(([110,111,116]:Nm)=kNot)∧(([97,110,100]:Nm)=kAnd)∧(([110,97,110,100]:Nm)=kNand)∧(([111,114]:Nm)=kOr)∧(([110,111,114]:Nm)=kNor)∧(([120,111,114]:Nm)=kXor)∧(([120,110,111,114]:Nm)=kXnor)∧
 (([109,117,120]:Nm)=kMux)∧(([108,117,116]:Nm)=kLut)∧(([99,101,108,108]:Nm)=kCell)∧(([102,108,111,112]:Nm)=kFlop)∧(([108,97,116,99,104]:Nm)=kLatch):=by
 refine⟨rfl,rfl,rfl,rfl,rfl,rfl,rfl,rfl,rfl,rfl,rfl,rfl,rfl⟩
theorem SA:(∀ (f:AV→Option AV),[].map f=[])∧(∀ (f:AV→Option AV) a l,(a::l).map f=f a::l.map f)∧(∀ (l:Loc),[]++l=l)∧(∀ (a:Option AV) (l m:Loc),(a::l)++m=a::(l++m))∧(∀ (a:Option AV),List.replicate 0 a=[])∧(∀ n (a:Option AV),List.replicate (n+1) a=a::List.replicate n a):=by
 refine⟨fun _=>rfl,fun _ _ _=>rfl,fun _=>rfl,fun _ _ _=>rfl,fun _=>rfl,fun _ _=>rfl⟩
structure Cell where
 kind:Nm
 out:Int
 ins:List Int
 param:AV
 deriving Repr,DecidableEq
def Cell.v(c:Cell):AV:= .tup [.str c.kind,.int c.out,.tup (za c.ins),c.param]
def gates:List Nm:=[kAnd,kNand,kOr,kNor,kXor,kXnor]
inductive CombOk:Nm→Nat→AV→Prop where
 | lut (l t:Nat):1≤l→l≤3→CombOk kLut l (.int t)
 | cell (l t:Nat) (nm:Nm):1≤l→l≤3→CombOk kCell l (.tup [.str nm,.int t])
 | mux:CombOk kMux 3 .none
 | gate (k:Nm):k∈gates→CombOk k 2 .none
 | buf:CombOk kBuf 1 .none
 | not:CombOk kNot 1 .none
inductive StOk:Nm→Nat→AV→Prop where
 | flop (e i:Int) (nm:Nm):StOk kFlop 4 (.tup [.int e,.str nm,.int i])
 | latch (i:Int) (nm:Nm):StOk kLatch 4 (.tup [.str nm,.int i])
def isSt(k:Nm):Bool:=decide (k=kFlop) || decide (k=kLatch)
def f3(f:Form):F3:=⟨f.1,f.2,.none⟩
def form1(k:Nm)(p:AV)(ins:List Int)(inv:Int→Option Int):F3:=
 if k=kLut then zh (ctab k p) ins else if k=kCell then libForm ins p else if k=kMux then f3 (selForm (ins.getD 0 0) (ins.getD 1 0) (ins.getD 2 0))
 else if ins.length=2 then f3 (zJ k (ins.getD 0 0) (ins.getD 1 0) (opp inv (ins.getD 0 0) (ins.getD 1 0))) else ⟨k,ins,.none⟩
def form2(inv:Int→Option Int)(f:F3):F3:=
 if f.kind=kNot then (if f.ins.getD 0 0=0∨f.ins.getD 0 0=1 then ⟨kBuf,[1 - f.ins.getD 0 0],.none⟩ else match inv (f.ins.getD 0 0) with
  | some y=>⟨kBuf,[y],.none⟩
  | none=>f) else f
def zK(k:Nm)(p:AV)(ins:List Int)(inv:Int→Option Int):F3:=form2 inv (form1 k p ins inv)
theorem table_ne{t:Nat}{ins:List Int}(h:(zh t ins).ins=[]):False:=by
 unfold zh at h;split at h
 ·simp at h
 ·split at h
  ·rename_i a b
   simp only at h;rw[h]at b;simp at b
  ·rename_i a b
   simp only at h;rw[h]at a;simp at a
theorem turn_ne{f:Form}(h:f.2≠[]):(turnOf f).2≠[]:=by
 unfold turnOf;split
 ·exact h
 ·unfold turnForm
  (repeat' split)<;>exact cons_ne_nil _ _
theorem gate_ne(k:Nm)(a b:Int)(o:Bool):(zJ k a b o).2≠[]:=by
 unfold zJ;(repeat' split)
 ·exact and_ne _ _ _
 ·exact turn_ne (and_ne _ _ _)
 ·exact or_ne _ _ _
 ·exact turn_ne (or_ne _ _ _)
 ·exact xor_ne _ _ _
 ·exact turn_ne (xor_ne _ _ _)
theorem sel_ne(s a b:Int):(selForm s a b).2≠[]:=by unfold selForm;(repeat' split)<;>exact cons_ne_nil _ _
theorem form1_ne{k:Nm}{p:AV}{ins:List Int}{inv:Int→Option Int}(hn:ins≠[]):(form1 k p ins inv).ins≠[]:=by
 unfold form1;(repeat' split)
 ·exact fun q=>table_ne q
 ·unfold libForm
  split
  ·exact hn
  ·exact fun q=>table_ne q
 ·exact sel_ne _ _ _
 ·exact gate_ne _ _ _ _
 ·exact hn
theorem simple_form_s{W n r N:Nat}{k:Nm}{out:Int}{oins ins:List Int}{p:AV}{inv:Int→Option Int}{H:Hp}(ok:CombOk k ins.length p)(h0:∀ x∈ins,0≤x)(hr:DictI H r inv N):
  ∃ T,callF P W (n+9) 35 [Cell.v ⟨k,out,oins,p⟩,.tup (za ins),.ref r] H=some ((zK k p ins inv).v,H++T):=by
 obtain⟨v,H',e,rfl,T,rfl⟩:∃ v H',callF P W (n+9) 35 [Cell.v ⟨k,out,oins,p⟩,.tup (za ins),.ref r] H=some (v,H')∧v=(zK k p ins inv).v∧∃ T,H'=H++T:=by
  refine zF (fn:=f_simple_form) rfl rfl ?_
  unfold f_simple_form;have hopp:=fun a b=>are_opposite_s (W:=W) (n:=n+7) (a:=a) (b:=b) hr
  have hsel:=fun s a b=>select_form_s (W:=W) (n:=n+7) (s:=s) (a:=a) (b:=b) (H:=H)
  have hgate:=fun k a b o=>gate_form_s (W:=W) (n:=n+6) (k:=k) (a:=a) (b:=b) (o:=o) (H:=H)
  have hlib:=fun nm t hl=>library_form_s (W:=W) (n:=n) (t:=t) (nm:=nm) (ins:=ins) (H:=H) hl h0
  have htab:=fun t hl=>table_form_s (W:=W) (n:=n+1) (t:=t) (ins:=ins) (H:=H) hl h0
  simp only[Nat.add_assoc,Nat.reduceAdd]at hopp hsel hgate hlib htab;generalize callF P W (n+8)=cl at *;simp only[SA,Nat.reduceSub,SK];refine zb (m1:=[some (Cell.v ⟨k,out,oins,p⟩),some (.tup (za ins)),some (.ref r),some (.str k),none]) (h1:=H) (by unfold Cell.v;simp only[QX]<;>rfl) (by simp only[QX]) ?_
  refine zb (m1:=[some (Cell.v ⟨k,out,oins,p⟩),some (.tup (za ins)),some (.ref r),some (.str k),some .none]) (h1:=H) (by simp only[QX]<;>rfl) (by simp only[QX]) ?_
  have fin:∀ (F:F3) (T:Hp),F.ins≠[]→zK k p ins inv=form2 inv F→Ok (exL cl W [.ite (.cmp .eq (.loc 3) (.const (.str kNot))) [.ite (.bop false [(.cmp .eq (.sub (.loc 1) (.const (.int 0))) (.const (.int 0))),(.cmp .eq (.sub (.loc 1) (.const (.int 0))) (.const (.int 1)))]) [.ret (.tup [(.const (.str kBuf)),(.tup [(.bin .sub (.const (.int 1)) (.sub (.loc 1) (.const (.int 0))))]),(.const .none)])] [],.ite (.cmp .in_ (.sub (.loc 1) (.const (.int 0))) (.loc 2)) [.ret (.tup [(.const (.str kBuf)),(.tup [(.sub (.loc 2) (.sub (.loc 1) (.const (.int 0))))]),(.const .none)])] []] [],
   .ret (.tup [(.loc 3),(.loc 1),(.loc 4)])] [some (Cell.v ⟨k,out,oins,p⟩),some (.tup (za F.ins)),some (.ref r),some (.str F.kind),some F.param] (H++T)) (fun f _ h=>(∃ v,f= .ret v∧v=(zK k p ins inv).v∧∃ T,h=H++T)∨(f= .next∧AV.none=(zK k p ins inv).v∧∃ T,h=H++T)):=by
   intro F T hF hs;rw[hs];have hr2:DictI (H++T) r inv N:=hr.keep (Keep.push H T);obtain⟨fk,fi,fp⟩:=F;obtain⟨a,l,rfl⟩:∃ a l,fi=a::l:=by
    cases fi with
    | nil=>exact absurd rfl hF
    | cons a l=>exact ⟨a,l,rfl⟩
   simp only;refine ok_if (c:=decide (fk=kNot)) (h1:=H++T) (by simp only[QX]) ?_ ?_
   ·intro hk
    have hk:=of_decide_eq_true hk;subst hk;refine ok_if (c:=decide (a=0) || decide (a=1)) (h1:=H++T) (or2 (by simp only[QX,za,map_cons]) (by simp only[QX,za,map_cons])) ?_ ?_
    ·intro ha
     refine zA (v:=F3.v ⟨kBuf,[1 - a],.none⟩) (h1:=H++T) (by simp only[QX,za,map_cons]<;>rfl) ⟨fun e=>by simp at e,fun _=>⟨fun e=>by simp at e,fun _=>Or.inl ⟨_,rfl,?_,T,rfl⟩⟩⟩
     have ha:a=0∨a=1:=by simpa using ha
     simp[form2,ha]
    ·intro ha
     have ha:¬ (a=0∨a=1):=by
      intro q;rcases q with rfl | rfl<;>simp at ha
     refine zn ⟨fun _=> ?_,fun e=>absurd rfl e⟩
     refine ok_if (c:=(inv a).isSome) (h1:=H++T) (by simp only[QX,za,map_cons,hr2.has]) ?_ ?_
     ·intro hi
      obtain⟨y,hy⟩:=Option.isSome_iff_exists.mp hi;refine zA (v:=F3.v ⟨kBuf,[y],.none⟩) (h1:=H++T) (by simp only[QX,za,map_cons,hr2.sub hy]<;>rfl) ⟨fun e=>by simp at e,fun _=>⟨fun e=>by simp at e,fun _=>Or.inl ⟨_,rfl,?_,T,rfl⟩⟩⟩
      simp[form2,ha,hy]
     ·intro hi
      have hi:inv a=none:=by simpa using hi
      refine zn ⟨fun _=>zn ⟨fun _=>zA (v:=F3.v ⟨kNot,a::l,fp⟩) (h1:=H++T) (by simp only[QX]<;>rfl) (Or.inl ⟨_,rfl,?_,T,rfl⟩),fun e=>absurd rfl e⟩,fun e=>absurd rfl e⟩
      simp[form2,ha,hi]
   ·intro hk
    have hk:=of_decide_eq_false hk;refine zn ⟨fun _=>zA (v:=F3.v ⟨fk,a::l,fp⟩) (h1:=H++T) (by simp only[QX]<;>rfl) (Or.inl ⟨_,rfl,?_,T,rfl⟩),fun e=>absurd rfl e⟩
    simp[form2,hk]
  have hkind:∀ (m:Loc) (K:Nm),tstE cl (.cmp .eq (.loc 3) (.const (.str K))) [some (Cell.v ⟨k,out,oins,p⟩),some (.tup (za ins)),some (.ref r),some (.str k),some .none] H=some (decide (k=K),H):=fun m K=>by simp only[QX]
  have hSF:zK k p ins inv=form2 inv (form1 k p ins inv):=rfl;have hne:ins≠[]→(form1 k p ins inv).ins≠[]:=form1_ne;refine ok_if (hkind [] _) ?_ ?_
  ·intro q
   have q:=of_decide_eq_true q;subst q;obtain⟨t,hl1,hl,rfl⟩:∃ t:Nat,1≤ins.length∧ins.length≤3∧p= .int t:=by
    generalize hL:ins.length=L at ok;generalize hK:kLut=K at ok;cases ok with
    | lut l t a b=>exact ⟨t,a,b,rfl⟩
    | gate k hk=>subst hK;exact absurd hk (by decide)
    | _=>exact absurd hK (by decide)
   obtain⟨T,ht⟩:=htab t hl;have hF:form1 kLut (.int t) ins inv=zh t ins:=by unfold form1;rw[if_pos rfl];rfl
   rw[hF]at hSF;refine ok_step (m1:=[some (Cell.v ⟨kLut,out,oins,.int t⟩),some (.tup (za (zh t ins).ins)),some (.ref r),some (.str (zh t ins).kind),some (zh t ins).param]) (h1:=H++T) ?_ (zn ⟨fun _=>fin _ T (fun q=>table_ne q) hSF,fun e=>absurd rfl e⟩)
   refine zN (v:=(zh t ins).v) (h1:=H++T) (zi (vs:=[.int t,.tup (za ins)]) (h1:=H) (by unfold Cell.v;simp only[QX]) ht) (by unfold F3.v;simp only[QX])
  ·intro q1
   have q1:=of_decide_eq_false q1;refine ok_if (hkind [] _) ?_ ?_
   ·intro q
    have q:=of_decide_eq_true q;subst q;obtain⟨t,nm,hl1,hl,rfl⟩:∃ (t:Nat) (nm:Nm),1≤ins.length∧ins.length≤3∧p= .tup [.str nm,.int t]:=by
     generalize hL:ins.length=L at ok;generalize hK:kCell=K at ok;cases ok with
     | cell l t nm a b=>exact ⟨t,nm,a,b,rfl⟩
     | gate k hk=>subst hK;exact absurd hk (by decide)
     | _=>exact absurd hK (by decide)
    obtain⟨T,ht⟩:=hlib nm t hl;have hF:form1 kCell (.tup [.str nm,.int t]) ins inv=libForm ins (.tup [.str nm,.int t]):=by unfold form1;rw[if_neg (by decide),if_pos rfl]
    rw[hF]at hSF;have hn:(libForm ins (.tup [.str nm,.int t])).ins≠[]:=by rw[← hF];exact form1_ne (fun e=>by rw[e]at hl1;simp at hl1)
    refine ok_step (m1:=[some (Cell.v ⟨kCell,out,oins,.tup [.str nm,.int t]⟩),some (.tup (za (libForm ins (.tup [.str nm,.int t])).ins)),some (.ref r),some (.str (libForm ins (.tup [.str nm,.int t])).kind),some (libForm ins (.tup [.str nm,.int t])).param]) (h1:=H++T) ?_ (zn ⟨fun _=>zn ⟨fun _=>fin _ T hn hSF,fun e=>absurd rfl e⟩,fun e=>absurd rfl e⟩)
    refine zN (v:=(libForm ins (.tup [.str nm,.int t])).v) (h1:=H++T) (zi (vs:=[.tup (za ins),.tup [.str nm,.int t]]) (h1:=H) (by unfold Cell.v;simp only[QX]) ht) (by unfold F3.v;simp only[QX])
   ·intro q2
    have q2:=of_decide_eq_false q2;refine ok_if (hkind [] _) ?_ ?_
    ·intro q
     have q:=of_decide_eq_true q;subst q;have hl:ins.length=3:=by
      generalize hL:ins.length=L at ok;generalize hK:kMux=K at ok;cases ok with
      | mux=>rfl
      | gate k hk=>subst hK;exact absurd hk (by decide)
      | _=>exact absurd hK (by decide)
     obtain⟨a,b,c,rfl⟩:∃ a b c,ins=[a,b,c]:=by
      match ins,hl with
      | [a,b,c],_=>exact ⟨a,b,c,rfl⟩
     have ht:=hsel a b c;have hF:form1 kMux p [a,b,c] inv=f3 (selForm a b c):=by unfold form1;rw[if_neg (by decide),if_neg (by decide),if_pos rfl];rfl
     rw[hF]at hSF;refine ok_step (m1:=[some (Cell.v ⟨kMux,out,oins,p⟩),some (.tup (za (selForm a b c).2)),some (.ref r),some (.str (selForm a b c).1),some .none]) (h1:=H) ?_ (zn ⟨fun _=>zn ⟨fun _=>zn ⟨fun _=> ?_,fun e=>absurd rfl e⟩,fun e=>absurd rfl e⟩,fun e=>absurd rfl e⟩)
     ·refine zN (v:=(selForm a b c).v) (h1:=H) (zi (vs:=[.int a,.int b,.int c]) (h1:=H) (by simp only[QX,za,map_cons]) ht) (by unfold Form.v;simp only[QX])
     ·have:=fin (f3 (selForm a b c)) [] (sel_ne _ _ _) hSF
      rw[append_nil]at this;exact this
    ·intro q3
     have q3:=of_decide_eq_false q3;refine ok_if (c:=decide (ins.length=2)) (h1:=H) (by simp only[QX,za,length_map];congr 2;rw[decide_eq_decide];omega) ?_ ?_
     ·intro q
      have hl:=of_decide_eq_true q;obtain⟨a,b,rfl⟩:∃ a b,ins=[a,b]:=by
       match ins,hl with
       | [a,b],_=>exact ⟨a,b,rfl⟩
      have ho:=hopp a b;have hg:=hgate k a b (opp inv a b);have hF:form1 k p [a,b] inv=f3 (zJ k a b (opp inv a b)):=by unfold form1;rw[if_neg q1,if_neg q2,if_neg q3,if_pos (show [a,b].length=2 from rfl)];rfl
      rw[hF]at hSF;refine ok_step (m1:=[some (Cell.v ⟨k,out,oins,p⟩),some (.tup (za (zJ k a b (opp inv a b)).2)),some (.ref r),some (.str (zJ k a b (opp inv a b)).1),some .none]) (h1:=H) ?_ (zn ⟨fun _=>zn ⟨fun _=>zn ⟨fun _=>zn ⟨fun _=> ?_,fun e=>absurd rfl e⟩,fun e=>absurd rfl e⟩,fun e=>absurd rfl e⟩,fun e=>absurd rfl e⟩)
      ·refine zN (v:=(zJ k a b (opp inv a b)).v) (h1:=H) (zi (vs:=[.str k,.int a,.int b,.bool (opp inv a b)]) (h1:=H) (by simp only[QX,za,map_cons,ho]) hg) (by unfold Form.v;simp only[QX])
      ·have:=fin (f3 (zJ k a b (opp inv a b))) [] (gate_ne _ _ _ _) hSF
       rw[append_nil]at this;exact this
     ·intro q
      have hl:=of_decide_eq_false q;have hF:form1 k p ins inv=⟨k,ins,.none⟩:=by unfold form1;rw[if_neg q1,if_neg q2,if_neg q3,if_neg hl]
      rw[hF]at hSF;refine zn ⟨fun _=>zn ⟨fun _=>zn ⟨fun _=>zn ⟨fun _=> ?_,fun e=>absurd rfl e⟩,fun e=>absurd rfl e⟩,fun e=>absurd rfl e⟩,fun e=>absurd rfl e⟩
      have:=fin ⟨k,ins,.none⟩ [] (by
       intro e;simp only at e;subst e;generalize hL:([]:List Int).length=L at ok;cases ok with
       | lut l t a b=>subst hL;simp at a
       | cell l t nm a b=>subst hL;simp at a
       | _=>simp at hL) hSF
      rw[append_nil]at this;exact this
 exact⟨T,e⟩
section
def nName:Nm:=[110,97,109,101]
def nCount:Nm:=[99,111,117,110,116]
def nInputs:Nm:=[105,110,112,117,116,115]
def nOutputs:Nm:=[111,117,116,112,117,116,115]
def nCells:Nm:=[99,101,108,108,115]
theorem SN:(([110,97,109,101]:Nm)=nName)∧(([99,111,117,110,116]:Nm)=nCount)∧(([105,110,112,117,116,115]:Nm)=nInputs)∧(([111,117,116,112,117,116,115]:Nm)=nOutputs)∧(([99,101,108,108,115]:Nm)=nCells):=⟨rfl,rfl,rfl,rfl,rfl⟩
section
variable {cl:Caller} {W:Nat} {ss:List S} {m m1:Loc} {h h1 h2 h3 h4:Hp} {Q:Fl→Loc→Hp→Prop}
theorem ok_setAttr{o e:E}{n:Nm}{v x:AV}(e1:evE cl e m [] h=some (v,h1))(e2:evE cl o m [] h1=some (x,h2))(e3:setAttrV h2 x n v=some h3)(k:Ok (exL cl W ss m h3) Q):Ok (exL cl W (.setAttr o n e::ss) m h) Q:=by
 refine ok_step (m1:=m) (h1:=h3) ?_ k
 rw[exS];simp only[e1,e2,e3,Option.bind_eq_bind,Option.bind_some,Option.pure_def]
theorem zw{o i e:E}{v x y:AV}(e1:evE cl e m [] h=some (v,h1))(e2:evE cl o m [] h1=some (x,h2))(e3:evE cl i m [] h2=some (y,h3))(e4:setSubV h3 x y v=some h4)(k:Ok (exL cl W ss m h4) Q):Ok (exL cl W (.setSub o i e::ss) m h) Q:=by
 refine ok_step (m1:=m) (h1:=h4) ?_ k
 rw[exS];simp only[e1,e2,e3,e4,Option.bind_eq_bind,Option.bind_some,Option.pure_def]
theorem ok_augLoc{i:Nat}{op:Op}{e:E}{x v r:AV}(e1:evE cl (.loc i) m [] h=some (x,h1))(e2:evE cl e m [] h1=some (v,h2))(e3:inplV h2 op x v=some (r,h3))(e4:bindT m (.one i) r=some m1)(k:Ok (exL cl W ss m1 h3) Q):Ok (exL cl W (.augLoc i op e::ss) m h) Q:=by
 refine ok_step (m1:=m1) (h1:=h3) ?_ k
 rw[exS];simp only[e1,e2,e3,e4,Option.bind_eq_bind,Option.bind_some,Option.pure_def]
theorem ok_augSub{o i e:E}{op:Op}{h5:Hp}{x y old v r:AV}(e1:evE cl o m [] h=some (x,h1))(e2:evE cl i m [] h1=some (y,h2))(e3:subV h2 x y=some old)(e4:evE cl e m [] h2=some (v,h3))(e5:inplV h3 op old v=some (r,h4))(e6:setSubV h4 x y r=some h5)(k:Ok (exL cl W ss m h5) Q):Ok (exL cl W (.augSub o i op e::ss) m h) Q:=by
 refine ok_step (m1:=m) (h1:=h5) ?_ k
 rw[exS];simp only[e1,e2,e3,e4,e5,e6,Option.bind_eq_bind,Option.bind_some,Option.pure_def]
theorem ok_end(k:Ok (exL cl W ss m h) Q):Ok (exL cl W [] m h) (fun f m h=>(f= .next→Ok (exL cl W ss m h) Q)∧(f≠ .next→Q f m h)):=zn ⟨fun _=>k,fun e=>absurd rfl e⟩
theorem zx(k:Q .next m h):Ok (exL cl W [] m h) (fun f m h=>(f= .next→Ok (exL cl W [] m h) Q)∧(f≠ .next→Q f m h)):=ok_end (zn k)
end
theorem get_off{H T:Hp}{k:Nat}:(H++T)[H.length+k]? =T[k]? :=by rw[getElem?_append_right (by omega)];congr 1;omega
theorem ze{H T:Hp}:(H++T)[H.length]? =T[0]? :=get_off (k:=0)
theorem set_off{H T:Hp}{k:Nat}{o:AO}:(H++T).set (H.length+k) o=H++T.set k o:=by rw[set_append_right _ _ (by omega)];congr 2;omega
theorem set_off0{H T:Hp}{o:AO}:(H++T).set H.length o=H++T.set 0 o:=set_off (k:=0)
theorem Keep.set{H h:Hp}(k:Keep H h){a:Nat}{o:AO}(ha:H.length≤a):Keep H (h.set a o):=fun i x e=>by
 have:=(gS.mp e).1;rw[getElem?_set_ne (by omega)]
 exact k i x e
theorem Keep.snoc{H h:Hp}(k:Keep H h)(T:Hp):Keep H (h++T):=k.trans (Keep.push h T)
abbrev Port:=Nm × List Int
structure NL where
 name:Nm
 count:Int
 inputs:List Port
 outputs:List Port
 cells:List Cell
 deriving DecidableEq
def PortsAt(h:Hp)(b:Nat)(vs:List AV)(ps:List Port):Prop:=vs.length=ps.length∧∀ (j:Nat) (p:Port),ps[j]? =some p→∃ a,b<a∧vs[j]? =some (.tup [.str p.1,.ref a])∧h[a]? =some (.list (za p.2))
theorem PortsAt.keep{h h':Hp}{b:Nat}{vs:List AV}{ps:List Port}(q:PortsAt h b vs ps)(k:∀ a o,b<a→h[a]? =some o→h'[a]? =some o):PortsAt h' b vs ps:=
 ⟨q.1,fun j p e=>by obtain⟨a,x,y,z⟩:=q.2 j p e;exact⟨a,x,y,k _ _ x z⟩⟩
theorem PortsAt.nil{h:Hp}{b:Nat}:PortsAt h b [] []:=⟨rfl,fun j p e=>by simp at e⟩
theorem PortsAt.snoc{h:Hp}{b a:Nat}{vs:List AV}{ps:List Port}{p:Port}(q:PortsAt h b vs ps)(ha:b<a)(e:h[a]? =some (.list (za p.2))):PortsAt h b (vs++[.tup [.str p.1,.ref a]]) (ps++[p]):=by
 refine⟨by simp[q.1],fun j p' e'=> ?_⟩
 by_cases hj:j<ps.length
 ·rw[getElem?_append_left hj]at e'
  obtain⟨a',x,y,z⟩:=q.2 j p' e';exact⟨a',x,by rw[getElem?_append_left (by have:=q.1;omega)];exact y,z⟩
 ·have hl:=(gS.mp e').1
  rw[length_append,length_singleton]at hl;have:j=ps.length:=by omega
  subst this;rw[getElem?_append_right (Nat.le_refl _),Nat.sub_self]at e';cases e';exact⟨a,ha,by rw[← q.1,getElem?_append_right (Nat.le_refl _),Nat.sub_self];rfl,e⟩
def netD(L:Nat)(N:NL):List (AV × AV):=[(.str nName,.str N.name),(.str nCount,.int N.count),(.str nInputs,.ref (L+2)),(.str nOutputs,.ref (L+3)),(.str nCells,.ref (L+4))]
structure NetA(h:Hp)(L:Nat)(N:NL):Prop where
 hd:h[L]? =some (.dict (netD L N))
 hi:h[L+1]? =some (.inst L)
 inp:∃ vi,h[L+2]? =some (.list vi)∧PortsAt h (L+4) vi N.inputs
 outp:∃ vo,h[L+3]? =some (.list vo)∧PortsAt h (L+4) vo N.outputs
 cel:h[L+4]? =some (.list (N.cells.map Cell.v))
theorem NetA.keep{h h':Hp}{L:Nat}{N:NL}(q:NetA h L N)(k:Keep h h'):NetA h' L N:=by
 obtain⟨a,b,⟨vi,c1,c2⟩,⟨vo,d1,d2⟩,e⟩:=q;exact⟨k _ _ a,k _ _ b,⟨vi,k _ _ c1,c2.keep fun _ _ _ z=>k _ _ z⟩,⟨vo,k _ _ d1,d2.keep fun _ _ _ z=>k _ _ z⟩,k _ _ e⟩
theorem NetA.set{h:Hp}{L a:Nat}{N:NL}{o:AO}(q:NetA h L N)(ha:a<L):NetA (h.set a o) L N:=by
 obtain⟨a,b,⟨vi,c1,c2⟩,⟨vo,d1,d2⟩,e⟩:=q;refine⟨?_,?_,⟨vi,?_,c2.keep fun x _ _ z=> ?_⟩,⟨vo,?_,d2.keep fun x _ _ z=> ?_⟩,?_⟩<;>(rw[getElem?_set_ne (by omega)];assumption)
theorem NetA.attr{h:Hp}{L:Nat}{N:NL}(q:NetA h L N):attrV h (.ref (L+1)) nName=some (.str N.name)∧attrV h (.ref (L+1)) nCount=some (.int N.count)∧attrV h (.ref (L+1)) nInputs=some (.ref (L+2))∧attrV h (.ref (L+1)) nOutputs=some (.ref (L+3))∧attrV h (.ref (L+1)) nCells=some (.ref (L+4)):=by
 have a:=q.hd;have b:=q.hi;refine⟨?_,?_,?_,?_,?_⟩<;>(unfold attrV;simp only[b,a];rfl)
theorem NetA.okI{h:Hp}{L:Nat}{N:NL}(q:NetA h L N):okInst h (L+1)=true:=by
 have a:=q.hd;have b:=q.hi;unfold okInst;simp only[b,a];rfl
theorem NetA.pushCell{h:Hp}{L:Nat}{N:NL}(q:NetA h L N)(c:Cell):NetA (h.set (L+4) (.list (N.cells.map Cell.v++[c.v]))) L { N with cells:=N.cells++[c] }:=by
 obtain⟨a,b,⟨vi,c1,c2⟩,⟨vo,d1,d2⟩,e⟩:=q;refine⟨?_,?_,⟨vi,?_,c2.keep fun x _ _ z=> ?_⟩,⟨vo,?_,d2.keep fun x _ _ z=> ?_⟩,?_⟩
 ·rw[getElem?_set_ne (by omega)];assumption
 ·rw[getElem?_set_ne (by omega)];assumption
 ·rw[getElem?_set_ne (by omega)];assumption
 ·rw[getElem?_set_ne (by omega)];assumption
 ·rw[getElem?_set_ne (by omega)];assumption
 ·rw[getElem?_set_ne (by omega)];assumption
 ·rw[zB _ _ _ (gS.mp e).1,map_append];rfl
theorem NetA.pushIn{h:Hp}{L:Nat}{N:NL}{vi:List AV}(q:NetA h L N)(e:h[L+2]? =some (.list vi)){p:Port}{a:Nat}(ha:L+4<a)(hp:h[a]? =some (.list (za p.2))):NetA (h.set (L+2) (.list (vi++[.tup [.str p.1,.ref a]]))) L { N with inputs:=N.inputs++[p] }:=by
 obtain⟨x,b,⟨vi',c1,c2⟩,⟨vo,d1,d2⟩,y⟩:=q;rw[e]at c1;cases c1;refine⟨?_,?_,⟨_,zB _ _ _ (gS.mp e).1,PortsAt.snoc (c2.keep fun x _ _ z=> ?_) ha ?_⟩,⟨vo,?_,d2.keep fun x _ _ z=> ?_⟩,?_⟩<;>(rw[getElem?_set_ne (by omega)];assumption)
theorem NetA.pushOut{h:Hp}{L:Nat}{N:NL}{vo:List AV}(q:NetA h L N)(e:h[L+3]? =some (.list vo)){p:Port}{a:Nat}(ha:L+4<a)(hp:h[a]? =some (.list (za p.2))):NetA (h.set (L+3) (.list (vo++[.tup [.str p.1,.ref a]]))) L { N with outputs:=N.outputs++[p] }:=by
 obtain⟨x,b,⟨vi,c1,c2⟩,⟨vo',d1,d2⟩,y⟩:=q;rw[e]at d1;cases d1;refine⟨?_,?_,⟨vi,?_,c2.keep fun x _ _ z=> ?_⟩,⟨_,zB _ _ _ (gS.mp e).1,PortsAt.snoc (d2.keep fun x _ _ z=> ?_) ha ?_⟩,?_⟩<;>(rw[getElem?_set_ne (by omega)];assumption)
theorem NetA.setCount{h:Hp}{L:Nat}{N:NL}(q:NetA h L N)(c:Int):setAttrV h (.ref (L+1)) nCount (.int c)=some (h.set L (.dict (netD L { N with count:=c })))∧NetA (h.set L (.dict (netD L { N with count:=c }))) L { N with count:=c }:=by
 obtain⟨x,b,⟨vi,c1,c2⟩,⟨vo,d1,d2⟩,y⟩:=q;refine⟨by unfold setAttrV;simp only[b,x];rfl,zB _ _ _ (gS.mp x).1,?_,⟨vi,?_,c2.keep fun x _ _ z=> ?_⟩,⟨vo,?_,d2.keep fun x _ _ z=> ?_⟩,?_⟩<;>(rw[getElem?_set_ne (by omega)];assumption)
def fin(rep:Int→Option Int)(x:Int):Int:=(rep x).getD x
def Chain(rep:Int→Option Int):Prop:=∀ x y,rep x=some y→rep y=none
theorem final_net_s{n r N:Nat}{rep:Int→Option Int}{x:Int}{H:Hp}(hr:DictI H r rep N)(hc:Chain rep):callF P 1000 (n+1) 21 [.ref r,.int x] H=some (.int (fin rep x),H):=by
 obtain⟨v,H',e,rfl,rfl⟩:∃ v H',callF P 1000 (n+1) 21 [.ref r,.int x] H=some (v,H')∧v= .int (fin rep x)∧H'=H:=by
  refine zF (fn:=f_final_net) rfl rfl ?_
  unfold f_final_net;generalize callF P 1000 n=cl;simp only[SA,Nat.reduceSub];refine ok_while (fun k m h=>h=H∧∃ y,m=[some (.ref r),some (.int y)]∧((y=x∧k=1)∨(rep x=some y∧k=0))) (fun m h=>h=H∧m=[some (.ref r),some (.int (fin rep x))]) 1 (by omega) ⟨rfl,x,rfl,Or.inl ⟨rfl,rfl⟩⟩ ?_ ?_
  ·rintro k m h ⟨rfl,y,rfl,hy⟩
   cases hry:rep y with
   | none=>
    refine Or.inl ⟨h,by simp only[QX,hr.has,hry,Option.isSome_none],rfl,?_⟩
    unfold fin;rcases hy with⟨rfl,_⟩ | ⟨hx,_⟩
    ·rw[hry];rfl
    ·rw[hx];rfl
   | some z=>
    refine Or.inr ⟨h,by simp only[QX,hr.has,hry,Option.isSome_some],?_⟩
    refine zb (v:= .int z) (h1:=h) (m1:=[some (.ref r),some (.int z)]) (by simp only[QX,hr.sub hry]) (by simp only[QX]) (zn ⟨by simp,?_⟩)
    rcases hy with⟨rfl,rfl⟩ | ⟨hx,_⟩
    ·exact⟨0,by omega,rfl,z,rfl,Or.inr ⟨hry,rfl⟩⟩
    ·rw[hc _ _ hx]at hry;cases hry
  ·rintro m h ⟨rfl,rfl⟩
   exact zA (v:= .int (fin rep x)) (h1:=h) (by simp only[QX]) (Or.inl ⟨_,rfl,rfl,rfl⟩)
 exact e
theorem init_s{W n:Nat}{nm:Nm}{H:Hp}:callF P W (n+1) 0 [.ref (H.length+1),.str nm] (H++[.dict [],.inst H.length])=some (.none,H++[.dict (netD H.length ⟨nm,2,[],[],[]⟩),.inst H.length,.list [],.list [],.list []]):=by
 obtain⟨v,H',e,rfl,rfl⟩:∃ v H',callF P W (n+1) 0 [.ref (H.length+1),.str nm] (H++[.dict [],.inst H.length])=some (v,H')∧v= .none∧H'=H++[.dict (netD H.length ⟨nm,2,[],[],[]⟩),.inst H.length,.list [],.list [],.list []]:=by
  refine zF (fn:=f_Netlist_init) rfl rfl ?_
  unfold f_Netlist_init;generalize callF P W n=cl;simp only[SA,Nat.reduceSub,SN];have st:∀ (es:List (AV × AV)) (T:Hp) (nn:Nm) (v:AV),es.length<100→okDict es=true→attrNames.contains nn=true→setAttrV (H++(.dict es:: .inst H.length::T)) (.ref (H.length+1)) nn v=some (H++(.dict (dput es (.str nn) v):: .inst H.length::T)):=by
   intro es T nn v a b c;unfold setAttrV;simp only[get_off,ze,getElem?_cons_zero,getElem?_cons_succ,set_off0,set_cons_zero,a,b,c,and_self,if_true]
  have dl:∀ (es:List (AV × AV)) (k v:AV),(dput es k v).length≤es.length+1:=dput_len;refine ok_setAttr (v:= .str nm) (h1:=H++[.dict [],.inst H.length]) (x:= .ref (H.length+1)) (h2:=H++[.dict [],.inst H.length]) (by simp only[QX]) (by simp only[QX]) (st [] [] _ _ (by decide) (by decide) (by decide)) ?_
  refine ok_setAttr (v:= .int 2) (x:= .ref (H.length+1)) (by simp only[QX]<;>rfl) (by simp only[QX]<;>rfl) (st (dput [] (.str nName) (.str nm)) [] _ _ (by show 1<100;decide) (by rfl) (by decide)) ?_
  refine ok_setAttr (v:= .ref (H.length+2)) (x:= .ref (H.length+1)) (by simp only[QX,length_append,length_cons,length_nil,append_assoc,cons_append,nil_append]<;>rfl) (by simp only[QX]<;>rfl) (st [(.str nName,.str nm),(.str nCount,.int 2)] [.list []] _ _ (by show 2<100;decide) (by rfl) (by decide)) ?_
  refine ok_setAttr (v:= .ref (H.length+3)) (x:= .ref (H.length+1)) (by simp only[QX,length_append,length_cons,length_nil,append_assoc,cons_append,nil_append]<;>rfl) (by simp only[QX]<;>rfl) (st [(.str nName,.str nm),(.str nCount,.int 2),(.str nInputs,.ref (H.length+2))] [.list [],.list []] _ _ (by show 3<100;decide) (by rfl) (by decide)) ?_
  refine ok_setAttr (v:= .ref (H.length+4)) (x:= .ref (H.length+1)) (by simp only[QX,length_append,length_cons,length_nil,append_assoc,cons_append,nil_append]<;>rfl) (by simp only[QX]<;>rfl) (st [(.str nName,.str nm),(.str nCount,.int 2),(.str nInputs,.ref (H.length+2)),(.str nOutputs,.ref (H.length+3))] [.list [],.list [],.list []] _ _ (by show 4<100;decide) (by rfl) (by decide)) ?_
  exact zn (Or.inr ⟨rfl,trivial,rfl⟩)
 exact e
theorem NetA.new{H:Hp}{nm:Nm}:NetA (H++[.dict (netD H.length ⟨nm,2,[],[],[]⟩),.inst H.length,.list [],.list [],.list []]) H.length ⟨nm,2,[],[],[]⟩:=
 ⟨ze,get_off,⟨[],get_off,PortsAt.nil⟩,⟨[],get_off,PortsAt.nil⟩,get_off⟩
end
def Kx(L:Nat)(h h':Hp):Prop:=∀ k o,(k<L∨L+4<k)→h[k]? =some o→h'[k]? =some o
theorem Kx.refl{L:Nat}{h:Hp}:Kx L h h:=fun _ _ _ e=>e
theorem Kx.trans{L:Nat}{h h1 h2:Hp}(a:Kx L h h1)(b:Kx L h1 h2):Kx L h h2:=fun k o x e=>b k o x (a k o x e)
theorem Keep.kx{L:Nat}{h h':Hp}(a:Keep h h'):Kx L h h':=fun k o _ e=>a k o e
theorem Kx.keep{L:Nat}{H h h':Hp}(a:Kx L h h')(k:Keep H h)(hl:H.length≤L):Keep H h':=fun i o e=>a i o (by have:=(gS.mp e).1;omega) (k i o e)
theorem Kx.set{L a:Nat}{h:Hp}{o:AO}(h1:L≤a)(h2:a≤L+4):Kx L h (h.set a o):=fun k x q e=>by rw[getElem?_set_ne (by omega)];exact e
theorem bi_list{h:Hp}{a:Nat}{vs:List AV}(e:h[a]? =some (.list vs)):biV h .list [.ref a]=some (.ref h.length,h++[.list vs]):=by unfold biV;simp only[e]
theorem bi_tuple{h:Hp}{a:Nat}{vs:List AV}(e:h[a]? =some (.list vs)):biV h .tuple [.ref a]=some (.tup vs,h):=by unfold biV;simp only[e]
theorem bi_len{h:Hp}{a:Nat}{vs:List AV}(e:h[a]? =some (.list vs)):biV h .len [.ref a]=some (.int vs.length,h):=by unfold biV;simp only[e]
theorem bm_ok{h:Hp}{a:Nat}{vs:List AV}{me:Me}(e:h[a]? =some (.list vs))(hm:me≠ .get):bmOk h me (.ref a)=true:=by unfold bmOk;simp only[e]
theorem bm_append{h:Hp}{a:Nat}{vs:List AV}{v:AV}(e:h[a]? =some (.list vs))(hl:vs.length≤1000):bmV h .append (.ref a) [v]=some (.none,h.set a (.list (vs++[v]))):=by unfold bmV;simp only[e,zp hl,if_true]
theorem zM{cl:Caller}{o e:E}{m c:Loc}{h h1 h2:Hp}{a:Nat}{vs vs2:List AV}{v:AV}(e1:evE cl o m c h=some (.ref a,h1))(e2:h1[a]? =some (.list vs))(e3:evE cl e m c h1=some (v,h2))(e4:h2[a]? =some (.list vs2))(hl:vs2.length≤1000):evE cl (.bm .append o [e]) m c h=some (.none,h2.set a (.list (vs2++[v]))):=by
 simp only[QX,e1,bm_ok e2 (by simp:Me.append≠ .get),e3,bm_append e4 hl]
theorem evE_meth{cl:Caller}{o:E}{f:Nat}{es:List E}{m c:Loc}{h h1 h2:Hp}{a:Nat}{vs:List AV}{r:Option (AV × Hp)}(e1:evE cl o m c h=some (.ref a,h1))(e2:okInst h1 a=true)(e3:evL cl es m c h1=some (vs,h2))(e4:cl f (.ref a::vs) h2=r):evE cl (.meth o f es) m c h=r:=by
 unfold evE;simp only[e1,Option.bind_eq_bind,Option.bind_some,e2,if_true,e3,e4]
theorem evE_new{cl:Caller}{es:List E}{m c:Loc}{h h1 h2:Hp}{vs:List AV}(e1:evL cl es m c h=some (vs,h1))(e2:cl 0 (.ref (h1.length+1)::vs) (h1++[.dict [],.inst h1.length])=some (.none,h2)):evE cl (.new es) m c h=some (.ref (h1.length+1),h2):=by
 unfold evE;simp only[e1,Option.bind_eq_bind,Option.bind_some,e2]
theorem drive_s{W n L a:Nat}{N:NL}{h:Hp}{out:Int}{k:Nm}{ins:List Int}{p:AV}(q:NetA h L N)(ha:h[a]? =some (.list (za ins)))(hl:N.cells.length≤1000):callF P W (n+1) 7 [.ref (L+1),.int out,.str k,.ref a,p] h=some (.none,h.set (L+4) (.list (N.cells.map Cell.v++[Cell.v ⟨k,out,ins,p⟩]))):=by
 refine call_end (fn:=f_Netlist_drive) rfl rfl ⟨[some (.ref (L+1)),some (.int out),some (.str k),some (.ref a),some p],?_⟩
 unfold f_Netlist_drive;generalize callF P W n=cl;have at1:=q.attr;simp only[SA,Nat.reduceSub,SN];refine zC (exS_expr (v:= .none) (zM (h1:=h) (h2:=h) (a:=L+4) (v:=Cell.v ⟨k,out,ins,p⟩) (by simp only[QX,at1]) q.cel (by simp only[QX,bi_tuple ha];rfl) q.cel (by rw[length_map];exact hl))) ?_
 rfl
theorem add_output_s{W n L a:Nat}{N:NL}{h:Hp}{nm:Nm}{nets:List Int}(q:NetA h L N)(ha:h[a]? =some (.list (za nets)))(hb:L+4<h.length)(hl:N.outputs.length≤1000):∃ h',callF P W (n+1) 5 [.ref (L+1),.str nm,.ref a] h=some (.none,h')∧NetA h' L { N with outputs:=N.outputs++[(nm,nets)] }∧Kx L h h'∧h.length≤h'.length:=by
 have q2:=q.keep (Keep.push h [.list (za nets)]);obtain⟨vo,e1,e2⟩:=q2.outp;have e3:(h++[AO.list (za nets)])[L+3]? =some (.list vo):=e1;have q3:=q2.pushOut (p:=(nm,nets)) (a:=h.length) e1 hb ze;refine⟨_,call_end (fn:=f_Netlist_add_output) rfl rfl ⟨[some (.ref (L+1)),some (.str nm),some (.ref a)],?_⟩,q3,(Keep.push _ _).kx.trans (Kx.set (by omega) (by omega)),by simp⟩
 unfold f_Netlist_add_output;generalize callF P W n=cl;have at1:=q.attr;obtain⟨vo2,e4,e5⟩:=q.outp;simp only[SA,Nat.reduceSub,SN];refine zC (exS_expr (v:= .none) (zM (h1:=h) (h2:=h++[.list (za nets)]) (a:=L+3) (v:= .tup [.str nm,.ref h.length]) (by simp only[QX,at1]) e4 (by simp only[QX,bi_list ha]) e1 (by rw[e2.1];exact hl))) ?_
 rfl
def mapIns(rep:Int→Option Int)(c:Cell):Cell:=⟨c.kind,c.out,c.ins.map (fin rep),c.param⟩
def rebuild(N:NL)(cells:List Cell)(rep:Int→Option Int):NL:=
 ⟨N.name,N.count,N.inputs,N.outputs.map fun p=>(p.1,p.2.map (fin rep)),(cells.filter fun c=>(rep c.out).isNone).map (mapIns rep)⟩
structure Small(N:NL):Prop where
 ci:N.inputs.length≤20
 co:N.outputs.length≤20
 cc:N.cells.length≤20
 pi:∀ p∈N.inputs,p.2.length≤20
 po:∀ p∈N.outputs,p.2.length≤20
 ni:∀ c∈N.cells,c.ins.length≤20
theorem fin_comp{n r M:Nat}{rep:Int→Option Int}{m c:Loc}{h:Hp}{it:E}{i:Nat}{l:List Int}{x:AV}{gd:Option (Nat × AO)}(hr:DictI h r rep M)(hc:Chain rep)(e1:evE (callF P 1000 (n+1)) it m c h=some (x,h))(e2:itemsOf h false x=some (za l,gd))(hg:guardOk h gd=true)(hl:l.length≤100)(hm:m[i]? =some (some (.ref r))):
  evE (callF P 1000 (n+1)) (.comp 1 (.one 0) false it (.elt (.call 21 [(.free i),(.loc 0)]))) m c h=some (.ref h.length,h++[.list (za (l.map (fin rep)))]):=by
 have:=comp_mapL (cl:=callF P 1000 (n+1)) (rng:=false) (it:=it) (e:= .call 21 [(.free i),(.loc 0)]) (m:=m) (c:=c) (h:=h) (h1:=h) l AV.int (fun a=> .int (fin rep a)) e1 e2 hg (by omega) (fun a ha=>by
  have f1:=final_net_s (n:=n) (x:=a) hr hc;have hm2:locG m i h=some (.ref r,h):=by rw[← locG_eq,hm]
  simp only[QX,hm2,f1])
 rw[this];unfold za;rw[map_map];rfl
theorem rebuilt_cells_s{n L rc r M:Nat}{N:NL}{cells:List Cell}{rep:Int→Option Int}{H:Hp}(q:NetA H L N)(hs:Small N)(hcl:H[rc]? =some (.list (cells.map Cell.v)))(hcn:cells.length≤100)(hci:∀ c∈cells,c.ins.length≤100)(hr:DictI H r rep M)(hc:Chain rep):
  ∃ L' H',callF P 1000 (n+3) 22 [.ref (L+1),.ref rc,.ref r] H=some (.ref (L'+1),H')∧NetA H' L' (rebuild N cells rep)∧Keep H H':=by
 obtain⟨v,H',e,L',rfl,q1,q2⟩:∃ v H',callF P 1000 (n+3) 22 [.ref (L+1),.ref rc,.ref r] H=some (v,H')∧∃ L',v= .ref (L'+1)∧NetA H' L' (rebuild N cells rep)∧Keep H H':=by
  refine zF (fn:=f_rebuilt_cells) rfl rfl ?_
  unfold f_rebuilt_cells;have hinit:=init_s (W:=1000) (n:=n+1) (nm:=N.name) (H:=H);have hdrive:=fun h N' out k a ins p=>drive_s (W:=1000) (n:=n+1) (L:=H.length) (a:=a) (N:=N') (h:=h) (out:=out) (k:=k) (ins:=ins) (p:=p)
  have hout:=fun h N' nm a nets=>add_output_s (W:=1000) (n:=n+1) (L:=H.length) (a:=a) (N:=N') (h:=h) (nm:=nm) (nets:=nets)
  have hcomp:=fun m c h it i l x gd=>fin_comp (n:=n+1) (r:=r) (M:=M) (rep:=rep) (m:=m) (c:=c) (h:=h) (it:=it) (i:=i) (l:=l) (x:=x) (gd:=gd)
  simp only[Nat.add_assoc,Nat.reduceAdd]at hinit hdrive hout hcomp;generalize callF P 1000 (n+2)=cl at *;simp only[SA,Nat.reduceSub,SN];have at0:=q.attr;let B:List (Option AV):=[some (.ref (L+1)),some (.ref rc),some (.ref r),some (.ref (H.length+1))]
  refine zb (v:= .ref (H.length+1)) (m1:=B++[none,none,none,none,none,none]) (h1:=H++[.dict (netD H.length ⟨N.name,2,[],[],[]⟩),.inst H.length,.list [],.list [],.list []]) (evE_new (vs:=[.str N.name]) (h1:=H) (by simp only[QX,at0]) hinit) (by simp only[QX]<;>rfl) ?_
  have n0:=NetA.new (H:=H) (nm:=N.name);have k0:Keep H (H++[.dict (netD H.length ⟨N.name,2,[],[],[]⟩),.inst H.length,.list [],.list [],.list []]):=Keep.push _ _;have l0:H.length+4<(H++[AO.dict (netD H.length ⟨N.name,2,[],[],[]⟩),AO.inst H.length,AO.list [],AO.list [],AO.list []]).length:=by simp
  generalize (H++[AO.dict (netD H.length ⟨N.name,2,[],[],[]⟩),AO.inst H.length,AO.list [],AO.list [],AO.list []])=h0 at *;obtain⟨s1,n1⟩:=n0.setCount N.count;have at1:=(q.keep k0).attr;refine ok_setAttr (v:= .int N.count) (x:= .ref (H.length+1)) (h1:=h0) (h2:=h0) (by simp only[B,QX,SA,at1]) (by simp only[B,SA,QX]) s1 ?_
  have k1:Keep H (h0.set H.length (.dict (netD H.length ⟨N.name,N.count,[],[],[]⟩))):=k0.set (Nat.le_refl _);have l1:H.length+4<(h0.set H.length (.dict (netD H.length ⟨N.name,N.count,[],[],[]⟩))).length:=by rw[length_set];exact l0
  simp only at n1;generalize (h0.set H.length (AO.dict (netD H.length ⟨N.name,N.count,[],[],[]⟩)))=h1 at *;clear n0 s1 k0 l0;have q1:=q.keep k1;obtain⟨vi,i1,i2⟩:=q.inp;have at2:=q1.attr;refine ok_for (x:= .ref (L+2)) (vs:=vi) (gd:=some (L+2,.list vi)) (h1:=h1) (fun j m h=>(∃ x y,m=B++[x,y,none,none,none,none])∧NetA h H.length ⟨N.name,N.count,N.inputs.take j,[],[]⟩∧Keep H h∧H.length+4<h.length)
   (by simp only[B,QX,SA,at2]) (zg _ _ _ (k1 _ _ i1)) ⟨⟨none,none,rfl⟩,n1,k1,l1⟩ (fun j m h _ s=>by unfold guardOk;simp[s.2.2.1 _ _ i1]) ?_ ?_
  ·rintro j v m h hv ⟨⟨x,y,rfl⟩,a1,a2,a3⟩
   have hj:=(gS.mp hv).1;rw[i2.1]at hj;obtain⟨a,b1,b2,b3⟩:=i2.2 j _ (getElem?_eq_getElem hj);have ht:N.inputs.take (j+1)=N.inputs.take j++[N.inputs[j]]:=by rw[take_add_one,getElem?_eq_getElem hj];rfl
   generalize N.inputs[j]=p at *;rw[hv]at b2;cases b2;refine⟨B++[some (.str p.1),some (.ref a),none,none,none,none],by simp only[B,QX,SA],?_⟩
   have b4:=a2 _ _ b3;have a4:=a1.keep (Keep.push h [.list (za p.2)]);obtain⟨w,w1,w2⟩:=a1.inp;have w1':=Keep.push h [.list (za p.2)] _ _ w1;have a5:=a4.pushIn (p:=p) (a:=h.length) w1' a3 ze;have at3:=a1.attr;refine ok_expr (zM (h1:=h) (h2:=h++[.list (za p.2)]) (a:=H.length+2) (v:= .tup [.str p.1,.ref h.length]) (by simp only[B,SA,QX,at3]) w1 (by simp only[B,SA,QX,bi_list b4]) w1' (by rw[w2.1,length_take];have:=hs.ci;omega)) (zn ⟨by simp,⟨_,_,rfl⟩,?_,(a2.snoc _).set (by omega),by simp;omega⟩)
   rw[ht];exact a5
  ·rintro m h ⟨⟨x,y,rfl⟩,a1,a2,a3⟩
   have:N.inputs.take vi.length=N.inputs:=by rw[i2.1,take_length]
   rw[this]at a1;clear n1 k1 l1 q1 at2 i2 i1;have hcl2:=a2 _ _ hcl;refine ok_for (x:= .ref rc) (vs:=cells.map Cell.v) (gd:=some (rc,.list (cells.map Cell.v))) (h1:=h) (fun j m h=>(∃ x y x1 x2 x3 x4,m=B++[x,y,x1,x2,x3,x4])∧NetA h H.length ⟨N.name,N.count,N.inputs,[],((cells.take j).filter fun (c:Cell)=>(rep c.out).isNone).map (mapIns rep)⟩∧Keep H h∧H.length+4<h.length)
    (by simp only[B,QX,SA]) (zg _ _ _ hcl2) ⟨⟨x,y,none,none,none,none,rfl⟩,a1,a2,a3⟩ (fun j m h _ s=>by unfold guardOk;simp[s.2.2.1 _ _ hcl]) ?_ ?_
   ·rintro j v m h hv ⟨⟨x,y,x1,x2,x3,x4,rfl⟩,a1,a2,a3⟩
    have hj:=(gS.mp hv).1;rw[length_map]at hj;rw[getElem?_map,getElem?_eq_getElem hj]at hv;have ht:cells.take (j+1)=cells.take j++[cells[j]]:=by rw[take_add_one,getElem?_eq_getElem hj];rfl
    have hcm:=hci _ (getElem_mem hj);generalize cells[j]=c at *;simp only[Option.map_some,Option.some.injEq]at hv;subst hv;refine⟨B++[x,y,some (.str c.kind),some (.int c.out),some (.tup (za c.ins)),some c.param],by unfold Cell.v;simp only[B,QX,SA],?_⟩
    have hr2:=hr.keep a2;refine ok_if (c:=(rep c.out).isNone) (h1:=h) (by simp only[B,QX,SA,hr2.has];cases rep c.out<;>rfl) ?_ ?_
    ·intro hnone
     have hcp:=hcomp (B++[x,y,some (.str c.kind),some (.int c.out),some (.tup (za c.ins)),some c.param]) [] h (.loc 8) 2 c.ins (.tup (za c.ins)) none hr2 hc (by simp only[B,QX,SA]) rfl rfl hcm rfl
     have a4:=a1.keep (Keep.push h [.list (za (c.ins.map (fin rep)))]);have hd:=hdrive (h++[.list (za (c.ins.map (fin rep)))]) _ c.out c.kind h.length (c.ins.map (fin rep)) c.param a4 ze (by
      rw[length_map];have:=length_filter_le (fun c=>(rep c.out).isNone) (cells.take j)
      rw[length_take]at this;omega)
     refine ok_expr (evE_meth (a:=H.length+1) (h1:=h) (vs:=[.int c.out,.str c.kind,.ref h.length,c.param]) (by simp only[B,QX,SA]) a1.okI (by simp only[B,SA]at hcp;simp only[B,QX,SA,hcp]) hd) (zx ⟨by simp,⟨_,_,_,_,_,_,rfl⟩,?_,(a2.snoc _).set (by omega),by simp;omega⟩)
     have a5:=a4.pushCell (mapIns rep c);rw[ht,filter_append,map_append];simp only[filter_cons,hnone,if_true,filter_nil,map_cons,map_nil];exact a5
    ·intro hsome
     refine zx ⟨by simp,⟨_,_,_,_,_,_,rfl⟩,?_,a2,a3⟩
     rw[ht,filter_append,map_append];simp only[filter_cons,hsome,Bool.false_eq_true,if_false,filter_nil,map_nil,append_nil];exact a1
   ·rintro m h ⟨⟨x,y,x1,x2,x3,x4,rfl⟩,a1,a2,a3⟩
    rw[length_map,take_length]at a1;have q2:=q.keep a2;obtain⟨vo,o1,o2⟩:=q.outp;have at2:=q2.attr;refine ok_for (x:= .ref (L+3)) (vs:=vo) (gd:=some (L+3,.list vo)) (h1:=h) (fun j m h=>(∃ x y,m=B++[x,y,x1,x2,x3,x4])∧NetA h H.length ⟨N.name,N.count,N.inputs,(N.outputs.take j).map fun (p:Port)=>(p.1,p.2.map (fin rep)),(cells.filter fun (c:Cell)=>(rep c.out).isNone).map (mapIns rep)⟩∧Keep H h∧H.length+4<h.length)
     (by simp only[B,QX,SA,at2]) (zg _ _ _ (a2 _ _ o1)) ⟨⟨x,y,rfl⟩,a1,a2,a3⟩ (fun j m h _ s=>by unfold guardOk;simp[s.2.2.1 _ _ o1]) ?_ ?_
    ·rintro j v m h hv ⟨⟨x,y,rfl⟩,a1,a2,a3⟩
     have hj:=(gS.mp hv).1;rw[o2.1]at hj;obtain⟨a,b1,b2,b3⟩:=o2.2 j _ (getElem?_eq_getElem hj);have ht:N.outputs.take (j+1)=N.outputs.take j++[N.outputs[j]]:=by rw[take_add_one,getElem?_eq_getElem hj];rfl
     have hpl:=hs.po _ (getElem_mem hj);generalize N.outputs[j]=p at *;rw[hv]at b2;cases b2;refine⟨B++[some (.str p.1),some (.ref a),x1,x2,x3,x4],by simp only[B,QX,SA],?_⟩
     have b4:=a2 _ _ b3;have hr2:=hr.keep a2;have hcp:=hcomp (B++[some (.str p.1),some (.ref a),x1,x2,x3,x4]) [] h (.loc 5) 2 p.2 (.ref a) _ hr2 hc (by simp only[B,QX,SA]) (zg _ _ _ b4) (by unfold guardOk;simp[b4]) (by omega) rfl
     have a4:=a1.keep (Keep.push h [.list (za (p.2.map (fin rep)))]);obtain⟨h',d1,d2,d3,d4⟩:=hout (h++[.list (za (p.2.map (fin rep)))]) _ p.1 h.length (p.2.map (fin rep)) a4 ze (by simp;omega) (by rw[length_map,length_take];have:=hs.co;omega)
     refine ok_expr (evE_meth (a:=H.length+1) (h1:=h) (vs:=[.str p.1,.ref h.length]) (by simp only[B,QX,SA]) a1.okI (by simp only[B,SA]at hcp;simp only[B,QX,SA,hcp]) d1) (zn ⟨by simp,⟨_,_,rfl⟩,?_,d3.keep (a2.snoc _) (by omega),by simp at d4;omega⟩)
     rw[ht,map_append];exact d2
    ·rintro m h ⟨⟨x,y,rfl⟩,a1,a2,a3⟩
     rw[o2.1,take_length]at a1;exact zA (v:= .ref (H.length+1)) (h1:=h) (by simp only[B,QX,SA]) (Or.inl ⟨_,rfl,H.length,rfl,a1,a2⟩)
 exact⟨L',H',e,q1,q2⟩
theorem rebuilt_s{n L r M:Nat}{N:NL}{rep:Int→Option Int}{H:Hp}(q:NetA H L N)(hs:Small N)(hr:DictI H r rep M)(hc:Chain rep):
  ∃ L' H',callF P 1000 (n+4) 23 [.ref (L+1),.ref r] H=some (.ref (L'+1),H')∧NetA H' L' (rebuild N N.cells rep)∧Keep H H':=by
 obtain⟨L',H',e,a,b⟩:=rebuilt_cells_s (n:=n) q hs q.cel (Nat.le_trans hs.cc (by omega)) (fun c hc=>Nat.le_trans (hs.ni c hc) (by omega)) hr hc
 refine⟨L',H',zz (fn:=f_rebuilt) rfl rfl ⟨[some (.ref (L+1)),some (.ref r)],?_⟩,a,b⟩
 unfold f_rebuilt;generalize callF P 1000 (n+3)=cl at *;have at1:=q.attr;simp only[SA,Nat.reduceSub,SN];exact zD (exS_ret (zi (vs:=[.ref (L+1),.ref (L+4),.ref r]) (h1:=H) (by simp only[QX,at1]) e))
def cA(l:List Cell)(i:Nat):Cell:=l.getD i ⟨kBuf,0,[],.none⟩
theorem cA_get{l:List Cell}{i:Nat}{c:Cell}(h:l[i]? =some c):cA l i=c:=by unfold cA;rw[getD_eq_getElem?_getD,h];rfl
theorem get_cA{l:List Cell}{i:Nat}(h:i<l.length):l[i]? =some (cA l i):=by unfold cA;rw[getD_eq_getElem?_getD,getElem?_eq_getElem h];rfl
theorem cA_mem{l:List Cell}{i:Nat}(h:i<l.length):cA l i∈l:=mem_of_getElem? (get_cA h)
def drvs(l:List Cell)(x:Int):Option Nat:=l.findIdx? fun c=>decide (c.out=x)
def pre1(l:List Cell)(x:Int):Option Nat:=match drvs l x with
 | some b=>if isSt (cA l b).kind=true then none else some b
 | none=>none
def pre(l:List Cell)(i:Nat):List Nat:=(cA l i).ins.filterMap (pre1 l)
def combs(l:List Cell):List Nat:=(List.range l.length).filter fun i=> !isSt (cA l i).kind
def remn(pr:List Nat)(D:List Nat):Nat:=pr.countP fun b=>decide (b∉D)
theorem remn_nil(pr:List Nat):remn pr []=pr.length:=by unfold remn;rw[countP_eq_length];intro a _;simp
theorem remn_zero{pr D:List Nat}:remn pr D=0↔∀ b∈pr,b∈D:=by
 unfold remn;rw[countP_eq_zero];constructor
 ·intro h b hb;have:=h b hb;simpa using this
 ·intro h b hb;simpa using h b hb
theorem remn_snoc{pr D:List Nat}{b:Nat}(hb:b∉D):remn pr (D++[b])+pr.count b=remn pr D:=by
 unfold remn;induction pr with
 | nil=>rfl
 | cons a l ih=>
  rw[countP_cons,countP_cons,count_cons];by_cases h:a=b
  ·subst h
   have e1:decide (a∉D++[a])=false:=by simp
   have e2:decide (a∉D)=true:=by simp[hb]
   rw[e1,e2];simp only[beq_self_eq_true,if_true,Bool.false_eq_true,if_false];omega
  ·have e1:(a == b)=false:=by simpa using h
   have e2:decide (a∉D++[b])=decide (a∉D):=by simp[h]
   rw[e1,e2];simp only[Bool.false_eq_true,if_false];omega
theorem zv{α:Type}{l:List α}{t:Nat}{b:α}(h:l[t]? =some b):l.take (t+1)=l.take t++[b]:=by rw[take_add_one,h];rfl
theorem nodup_take{l:List Nat}(h:l.Nodup){t b:Nat}(e:l[t]? =some b):b∉l.take t:=by
 intro hb;have hl:=(gS.mp e).1;have h2:(l.take t++l.drop t).Nodup:=by rw[take_append_drop];exact h
 rw[nodup_append]at h2;exact h2.2.2 b hb b (by rw[mem_iff_getElem?];exact⟨0,by rw[getElem?_drop];exact e⟩) rfl
structure KInv(l:List Cell)(t:Nat)(R:List Nat)(w:Nat→Int):Prop where
 nd:R.Nodup
 sub:∀ i∈R,i∈combs l
 le:t≤R.length
 wt:∀ i∈combs l,w i=remn (pre l i) (R.take t)
 iff:∀ i∈combs l,(i∈R↔remn (pre l i) (R.take t)=0)
 top:∀ p i,R[p]? =some i→∀ b∈pre l i,b∈R.take p
def updN(w:Nat→Int)(i:Nat)(v:Int):Nat→Int:=fun x=>if i=x then v else w x
structure KMid(l:List Cell)(t:Nat)(R:List Nat)(w:Nat→Int)(b:Nat)(qs:List Nat)(R':List Nat)(w':Nat→Int):Prop where
 nd:R'.Nodup
 sub:∀ i∈R',i∈combs l
 ex:∃ E,R'=R++E
 wt:∀ i∈combs l,w' i=w i - qs.count i
 iff:∀ i∈combs l,(i∈R'↔w' i=0)
theorem KInv.mid{l:List Cell}{t:Nat}{R:List Nat}{w:Nat→Int}(k:KInv l t R w)(b:Nat):KMid l t R w b [] R w:=
 ⟨k.nd,k.sub,⟨[],by simp⟩,fun i hi=>by simp,fun i hi=>by rw[k.wt i hi,k.iff i hi];omega⟩
theorem KMid.step{l:List Cell}{t:Nat}{R R':List Nat}{w w':Nat→Int}{b i:Nat}{qs qt:List Nat}(k:KInv l t R w)(hb:R[t]? =some b)(m:KMid l t R w b qs R' w')(hi:i∈combs l)(hc2:(qs++i::qt).count i≤(pre l i).count b):
  KMid l t R w b (qs++[i]) (if w' i - 1=0 then R'++[i] else R') (updN w' i (w' i - 1)):=by
 have h1:w' i≥1:=by
  have a:=m.wt i hi;have b1:=k.wt i hi;have c1:=remn_snoc (pr:=pre l i) (nodup_take k.nd hb);rw[count_append,count_cons_self]at hc2;omega
 have hn:i∉R':=fun q=>by have:=(m.iff i hi).mp q;omega
 refine⟨?_,?_,?_,?_,?_⟩
 ·split
  ·rw[nodup_append]
   refine⟨m.nd,by simp,fun a ha c hc e=> ?_⟩
   rw[mem_singleton]at hc;subst hc e;exact hn ha
  ·exact m.nd
 ·intro x hx
  split at hx
  ·rw[mem_append,mem_singleton]at hx
   rcases hx with hx | rfl
   ·exact m.sub x hx
   ·exact hi
  ·exact m.sub x hx
 ·obtain⟨E,hE⟩:=m.ex
  split
  ·exact⟨E++[i],by rw[hE,append_assoc]⟩
  ·exact⟨E,hE⟩
 ·intro x hx
  have:=m.wt x hx;unfold updN;rw[count_append,count_singleton];by_cases q:i=x
  ·subst q;simp;omega
  ·have:(i == x)=false:=by simpa using q
   simp[q];omega
 ·intro x hx
  have:=m.iff x hx;unfold updN;by_cases q:i=x
  ·subst q
   simp only[if_true];split
   ·rename_i e;simp[e]
   ·rename_i e;constructor
    ·intro h;exact absurd h hn
    ·intro h;exact absurd h e
  ·simp only[q,if_false]
   split
   ·rw[mem_append,mem_singleton,← this]
    constructor
    ·rintro (h | h)
     ·exact h
     ·exact absurd h.symm q
    ·exact Or.inl
   ·exact this
theorem KMid.done{l:List Cell}{t:Nat}{R R':List Nat}{w w':Nat→Int}{b:Nat}{qs:List Nat}(k:KInv l t R w)(hb:R[t]? =some b)(m:KMid l t R w b qs R' w')(hc:∀ i∈combs l,qs.count i=(pre l i).count b):KInv l (t+1) R' w':=by
 have ht:=(gS.mp hb).1;obtain⟨E,rfl⟩:=m.ex;have htk:(R++E).take (t+1)=R.take t++[b]:=by rw[take_append_of_le_length (by omega)];exact zv hb
 have hw:∀ i∈combs l,w' i=remn (pre l i) ((R++E).take (t+1)):=by
  intro i hi;rw[htk,m.wt i hi,k.wt i hi,hc i hi];have:=remn_snoc (pr:=pre l i) (nodup_take k.nd hb);omega
 refine⟨m.nd,m.sub,by rw[length_append];omega,hw,fun i hi=>by rw[m.iff i hi,hw i hi];omega,?_⟩
 intro p i hp b' hb';by_cases hpl:p<R.length
 ·rw[getElem?_append_left hpl]at hp
  rw[take_append_of_le_length (by omega)]
  exact k.top p i hp b' hb'
 ·have hi:i∈R++E:=mem_of_getElem? hp
  have hi2:=m.sub i hi;have h0:=(m.iff i hi2).mp hi;rw[hw i hi2]at h0;have h1:=remn_zero.mp (by omega:remn (pre l i) ((R++E).take (t+1))=0) b' hb'
  have h2:(R++E).take (t+1)=((R++E).take p).take (t+1):=by rw[take_take];congr 1;omega
  rw[h2]at h1;exact mem_of_mem_take h1
structure Order(l:List Cell)(R:List Nat):Prop where
 nd:R.Nodup
 mem:∀ i,i∈R↔i∈combs l
 top:∀ p i,R[p]? =some i→∀ b∈pre l i,b∈R.take p
theorem pre_comb{l:List Cell}{i b:Nat}(h:b∈pre l i):b∈combs l:=by
 unfold pre at h;rw[mem_filterMap]at h;obtain⟨x,_,e⟩:=h;unfold pre1 at e;split at e
 ·rename_i b' hb
  split at e
  ·cases e
  ·rename_i hs
   cases e;unfold combs;rw[mem_filter,mem_range];unfold drvs at hb;rw[findIdx?_eq_some_iff_findIdx_eq]at hb;exact⟨hb.1,by simpa using hs⟩
 ·cases e
theorem KInv.order{l:List Cell}{R:List Nat}{w:Nat→Int}{t:Nat}(k:KInv l t R w)(ht:t=R.length)(rk:Nat→Nat)(hr:∀ i∈combs l,∀ b∈pre l i,rk b<rk i):Order l R:=by
 subst ht;have key:∀ n i,rk i<n→i∈combs l→i∈R:=by
  intro n;induction n with
  | zero=>intro i h;omega
  | succ n ih=>
   intro i h hi;rw[k.iff i hi,take_length,remn_zero];intro b hb;have:=hr i hi b hb;exact ih b (by omega) (pre_comb hb)
 exact⟨k.nd,fun i=>⟨k.sub i,fun h=>key (rk i+1) i (by omega) h⟩,k.top⟩
theorem combs_nodup(l:List Cell):(combs l).Nodup:=List.Pairwise.filter _ nodup_range
theorem Order.len{l:List Cell}{R:List Nat}(o:Order l R):R.length=(combs l).length:=((List.perm_ext_iff_of_nodup o.nd (combs_nodup l)).mpr o.mem).length_eq
theorem KInv.lens{l:List Cell}{R:List Nat}{w:Nat→Int}{t:Nat}(k:KInv l t R w):R.length≤l.length:=by
 have h1:R.length≤(combs l).length:=List.Nodup.length_le_of_subset k.nd k.sub;have h2:=length_filter_le (fun i=> !isSt (cA l i).kind) (List.range l.length)
 rw[length_range]at h2;exact Nat.le_trans h1 h2
theorem KMid.lens{l:List Cell}{R R':List Nat}{w w':Nat→Int}{t b:Nat}{qs:List Nat}(k:KMid l t R w b qs R' w'):R'.length≤l.length:=by
 have h1:R'.length≤(combs l).length:=List.Nodup.length_le_of_subset k.nd k.sub;have h2:=length_filter_le (fun i=> !isSt (cA l i).kind) (List.range l.length)
 rw[length_range]at h2;exact Nat.le_trans h1 h2
def ready0(l:List Cell)(n:Nat):List Nat:=(List.range n).filter fun i=> !isSt (cA l i).kind&&decide ((pre l i).length=0)
theorem KInv.init(l:List Cell):KInv l 0 (ready0 l l.length) (fun i=>((pre l i).length:Nat)):=by
 refine⟨List.Pairwise.filter _ nodup_range,?_,Nat.zero_le _,?_,?_,?_⟩
 ·intro i hi
  unfold ready0 at hi;unfold combs;rw[mem_filter]at hi ⊢;exact⟨hi.1,by simp at hi;simp[hi.2.1]⟩
 ·intro i hi;rw[take_zero,remn_nil]
 ·intro i hi
  rw[take_zero,remn_nil];unfold ready0;unfold combs at hi;rw[mem_filter]at hi ⊢;constructor
  ·rintro⟨_,h⟩;simp at h;simp[h.2]
  ·intro h;exact⟨hi.1,by rw[hi.2,h];rfl⟩
 ·intro p i hp b hb
  have hm:=mem_of_getElem? hp;unfold ready0 at hm;rw[mem_filter]at hm;have h2:(pre l i).length=0:=by simpa using (Bool.and_eq_true_iff.mp hm.2).2
  rw[length_eq_zero_iff]at h2;rw[h2]at hb;exact absurd hb (by simp)
def users0(l:List Cell)(n b:Nat):List Nat:=(List.range n).flatMap fun i=>if isSt (cA l i).kind=true then [] else List.replicate ((pre l i).count b) i
theorem users0_succ(l:List Cell)(n b:Nat):users0 l (n+1) b=users0 l n b++(if isSt (cA l n).kind=true then [] else List.replicate ((pre l n).count b) n):=by
 unfold users0;rw[range_succ,flatMap_append];simp
theorem users0_count(l:List Cell)(b i:Nat):∀ n,(users0 l n b).count i=if i<n∧isSt (cA l i).kind=false then (pre l i).count b else 0:=by
 intro n;induction n with
 | zero=>simp[users0]
 | succ n ih=>
  rw[users0_succ,count_append,ih];by_cases q:i=n
  ·subst q
   cases isSt (cA l i).kind<;>simp[count_replicate]
  ·have hni:(n == i)=false:=by simpa using fun e=>q e.symm
   have e:∀ k,(List.replicate k n).count i=0:=fun k=>by rw[count_replicate];simp[hni]
   have:(i<n+1)↔i<n:=by omega
   have e2:List.count i (if isSt (cA l n).kind=true then [] else List.replicate (List.count b (pre l n)) n)=0:=by split<;>simp[e]
   simp only[this,e2,Nat.add_zero]
theorem users_count(l:List Cell)(b:Nat):∀ i∈combs l,(users0 l l.length b).count i=(pre l i).count b:=by
 intro i hi;unfold combs at hi;rw[mem_filter,mem_range]at hi;rw[users0_count,if_pos ⟨hi.1,by simpa using hi.2⟩]
theorem users_comb(l:List Cell)(b:Nat):∀ i∈users0 l l.length b,i∈combs l:=by
 intro i hi;have:=users0_count l b i l.length;have h:=count_pos_iff.mpr hi;rw[this]at h;split at h
 ·rename_i q
  unfold combs;rw[mem_filter,mem_range];exact⟨q.1,by simp[q.2]⟩
 ·omega
def DictK(H:Hp)(r:Nat)(S:List Int)(n:Nat):Prop:=∃ es,H[r]? =some (.dict es)∧es.length≤n∧∀ x:Int,(dfind es (.int x)).isSome=decide (x∈S)
theorem DictK.has{H:Hp}{r:Nat}{S:List Int}{n:Nat}(d:DictK H r S n)(x:Int):containsV H (.int x) (.ref r)=some (decide (x∈S)):=by
 obtain⟨es,a,b,c⟩:=d;simp only[containsV,a,isKey,if_true,c]
theorem DictK.lt{H:Hp}{r:Nat}{S:List Int}{n:Nat}(d:DictK H r S n):r<H.length:=by
 obtain⟨es,a,_⟩:=d;exact (gS.mp a).1
theorem DictI.lt{H:Hp}{r:Nat}{f:Int→Option Int}{n:Nat}(d:DictI H r f n):r<H.length:=by
 obtain⟨es,a,_⟩:=d;exact (gS.mp a).1
theorem DictK.put{H:Hp}{r:Nat}{S:List Int}{n:Nat}(d:DictK H r S n)(x:Int)(v:AV)(hn:n<1000):∃ o,setSubV H (.ref r) (.int x) v=some (H.set r o)∧DictK (H.set r o) r (S++[x]) (n+1):=by
 obtain⟨es,a,b,c⟩:=d;refine⟨.dict (dput es (.int x) v),?_,dput es (.int x) v,zB _ _ _ (gS.mp a).1,by have:=dput_len es (.int x) v;omega,?_⟩
 ·simp only[setSubV,a,isKey]
  rw[if_pos ⟨trivial,Nat.lt_of_le_of_lt b (zp (by omega))⟩]
 ·intro z
  rw[dfind_dput];by_cases q:x=z
  ·subst q;simp
  ·have:¬ AV.int x=AV.int z:=fun e=>q (by injection e)
   have q2:¬ z=x:=fun e=>q e.symm
   simp only[this,if_false,c,mem_append,mem_singleton,q2,or_false]
theorem DictK.other{H:Hp}{r r2:Nat}{S:List Int}{n:Nat}{o:AO}(d:DictK H r S n)(h:r2≠r):DictK (H.set r2 o) r S n:=by
 obtain⟨es,a,b,c⟩:=d;exact⟨es,by rw[getElem?_set_ne h];exact a,b,c⟩
theorem DictK.keep{H H':Hp}{r:Nat}{S:List Int}{n:Nat}(k:Keep H H')(d:DictK H r S n):DictK H' r S n:=by
 obtain⟨es,a,b,c⟩:=d;exact⟨es,k _ _ a,b,c⟩
theorem DictK.mono{H:Hp}{r:Nat}{S:List Int}{n n':Nat}(d:DictK H r S n)(h:n≤n'):DictK H r S n':=by
 obtain⟨es,a,b,c⟩:=d;exact⟨es,a,Nat.le_trans b h,c⟩
theorem DictI.mono{H:Hp}{r:Nat}{f:Int→Option Int}{n n':Nat}(d:DictI H r f n)(h:n≤n'):DictI H r f n':=by
 obtain⟨es,a,b,c⟩:=d;exact⟨es,a,Nat.le_trans b h,c⟩
theorem is_state_kind_s{W n:Nat}{k:Nm}{H:Hp}:callF P W (n+1) 1 [.str k] H=some (.bool (isSt k),H):=by
 refine zz (fn:=f_is_state_kind) rfl rfl ⟨[some (.str k)],?_⟩
 unfold f_is_state_kind isSt;generalize callF P W n=cl;simp only[SA,Nat.reduceSub,SK];refine zD (exS_ret ?_)
 unfold evE;simp only[evB,QX,Option.bind_eq_bind];cases decide (k=kFlop)<;>simp[truthy,QX]
theorem cell_sub{h:Hp}{L:Nat}{N:NL}(q:NetA h L N){j:Nat}(hj:j<N.cells.length):subV h (.ref (L+4)) (.int j)=some (cA N.cells j).v:=by
 simp only[subV,q.cel,seqAt_nat,getElem?_map,get_cA hj,Option.map_some]
theorem sub_list{h:Hp}{a j:Nat}{vs:List AV}(e:h[a]? =some (.list vs)):subV h (.ref a) (.int j)=vs[j]? :=by simp only[subV,e,seqAt_nat]
theorem state_cells_s{W n L:Nat}{N:NL}{H:Hp}(q:NetA H L N)(hs:Small N):∃ T,callF P W (n+2) 9 [.ref (L+1)] H=some (.ref H.length,H++[.list T])∧T.length+(combs N.cells).length=N.cells.length:=by
 obtain⟨v,H',e,T,rfl,rfl,hT⟩:∃ v H',callF P W (n+2) 9 [.ref (L+1)] H=some (v,H')∧∃ T,v= .ref H.length∧H'=H++[.list T]∧T.length+(combs N.cells).length=N.cells.length:=by
  refine zF (fn:=f_state_cells) rfl rfl ?_
  unfold f_state_cells;have hk:=fun k H=>is_state_kind_s (W:=W) (n:=n) (k:=k) (H:=H)
  generalize callF P W (n+1)=cl at *;simp only[SA,Nat.reduceSub,SN];refine zb (v:= .ref H.length) (h1:=H++[.list []]) (m1:=[some (.ref (L+1)),some (.ref H.length),none]) (by simp only[QX]) (by simp only[QX]) ?_
  have q0:=q.keep (Keep.push H [.list []]);have at0:=q0.attr;have hb:=bi_len q0.cel;refine ok_range (n:=N.cells.length) (h1:=H++[.list []]) (fun j m h=>∃ x T,m=[some (.ref (L+1)),some (.ref H.length),x]∧h=H++[.list T]∧T.length+((List.range j).filter fun i=> !isSt (cA N.cells i).kind).length=j) (by simp only[QX,at0,hb,length_map]) (by have:=hs.cc;omega) ⟨none,[],rfl,rfl,rfl⟩ ?_ ?_
  ·rintro j m h hj ⟨x,T,rfl,rfl,hT⟩
   refine⟨[some (.ref (L+1)),some (.ref H.length),some (.int j)],by simp only[QX],?_⟩
   have q1:=q.keep (Keep.push H [.list T]);have at1:=q1.attr;have c1:=cell_sub q1 hj;have hr:((List.range (j+1)).filter fun i=> !isSt (cA N.cells i).kind).length=((List.range j).filter fun i=> !isSt (cA N.cells i).kind).length+(if isSt (cA N.cells j).kind then 0 else 1):=by
    rw[range_succ,filter_append,length_append];congr 1
    cases e:isSt (cA N.cells j).kind<;>simp[e]
   refine ok_if (c:=isSt (cA N.cells j).kind) (h1:=H++[.list T]) (by simp only[QX,at1,c1,Cell.v,hk]) ?_ ?_
   ·intro e
    refine ok_expr (zM (a:=H.length) (vs:=T) (h1:=H++[.list T]) (h2:=H++[.list T]) (v:= .int j) (by simp only[QX]) ze (by simp only[QX]) ze (by have:=hs.cc;omega)) (zx ⟨by simp,_,T++[.int j],rfl,by rw[set_off0];rfl,?_⟩)
    rw[hr,e,length_append];simp;omega
   ·intro e
    refine zx ⟨by simp,_,T,rfl,rfl,?_⟩
    rw[hr,e];simp;omega
  ·rintro m h ⟨x,T,rfl,rfl,hT⟩
   exact zA (v:= .ref H.length) (h1:=H++[.list T]) (by simp only[QX]) (Or.inl ⟨_,rfl,T,rfl,rfl,hT⟩)
 exact⟨T,e,hT⟩
def zd(ps:List Port):List Int:=ps.flatMap fun p=>p.2
def srcs(N:NL):List Int:=[0,1]++zd N.inputs
def outs(N:NL):List Int:=N.cells.map (·.out)
def drvI(l:List Cell)(x:Int):Option Int:=(drvs l x).map fun (i:Nat)=>(i:Int)
theorem drvs_snoc{l:List Cell}{c:Cell}(h:c.out∉l.map (·.out)):drvI (l++[c])=upd (drvI l) c.out l.length:=by
 funext z
 unfold drvI drvs upd;rw[findIdx?_append];by_cases q:c.out=z
 ·subst q
  have:l.findIdx? (fun d=>decide (d.out=c.out))=none:=by
   rw[findIdx?_eq_none_iff];intro d hd;rw[decide_eq_false_iff_not];intro e;exact h (mem_map.mpr ⟨d,hd,e⟩)
  rw[this];simp
 ·rw[if_neg q]
  congr 1
  simp[q]
theorem nodup_mid{l:List Int}(h:l.Nodup){p q:List Int}{x:Int}(e:l=p++x::q):x∉p:=by
 subst e;rw[nodup_append]at h;intro hx;exact h.2.2 x hx x (by simp) rfl
theorem drivers_s{W n L:Nat}{N:NL}{H:Hp}(q:NetA H L N)(hs:Small N)(hu:(srcs N++outs N).Nodup):∃ r H',callF P W (n+1) 10 [.ref (L+1)] H=some (.ref r,H')∧Keep H H'∧DictI H' r (drvI N.cells) 20:=by
 obtain⟨v,H',e,r,rfl,kp,hd⟩:∃ v H',callF P W (n+1) 10 [.ref (L+1)] H=some (v,H')∧∃ r,v= .ref r∧Keep H H'∧DictI H' r (drvI N.cells) 20:=by
  refine zF (fn:=f_drivers) rfl rfl ?_
  unfold f_drivers;generalize callF P W n=cl at *;simp only[SA,Nat.reduceSub,SN];obtain⟨d0,d1,d2⟩:∃ o,evE cl (.dict [(.const (.int 0)),(.const (.bool true)),(.const (.int 1)),(.const (.bool true))]) [some (.ref (L+1)),none,none,none,none,none,none] [] H=some (.ref H.length,H++[o])∧DictK (H++[o]) H.length [0,1] 2:=by
   refine⟨.dict [(.int 0,.bool true),(.int 1,.bool true)],by simp only[QX,pairUp,isKey];rfl,_,ze,by simp,fun x=> ?_⟩
   unfold dfind dfind dfind;by_cases h0:(0:Int)=x
   ·subst h0;simp
   ·by_cases h1:(1:Int)=x
    ·subst h1;simp
    ·have h0':¬ x=0:=fun e=>h0 e.symm
     have h1':¬ x=1:=fun e=>h1 e.symm
     simp[h0,h1,h0',h1']
  refine zb (m1:=[some (.ref (L+1)),some (.ref H.length),none,none,none,none,none]) d1 (by simp only[QX]) ?_
  have k0:Keep H (H++[d0]):=Keep.push _ _;generalize H++[d0]=h0 at *;have q0:=q.keep k0;have at0:=q0.attr;obtain⟨vi,i1,i2⟩:=q.inp;refine ok_for (x:= .ref (L+2)) (vs:=vi) (gd:=some (L+2,.list vi)) (h1:=h0) (fun j m h=>(∃ x y z,m=[some (.ref (L+1)),some (.ref H.length),x,y,z,none,none])∧Keep H h∧DictK h H.length ([0,1]++zd (N.inputs.take j)) (2+20 * j))
   (by simp only[QX,at0]) (zg _ _ _ (k0 _ _ i1)) ⟨⟨none,none,none,rfl⟩,k0,d2⟩ (fun j m h _ s=>by unfold guardOk;simp[s.2.1 _ _ i1]) ?_ ?_
  ·rintro j v m h hv ⟨⟨x,y,z,rfl⟩,a1,a2⟩
   have hj:=(gS.mp hv).1;rw[i2.1]at hj;have hjl:j<20:=Nat.lt_of_lt_of_le hj hs.ci;obtain⟨a,b1,b2,b3⟩:=i2.2 j _ (getElem?_eq_getElem hj);have ht:N.inputs.take (j+1)=N.inputs.take j++[N.inputs[j]]:=by rw[take_add_one,getElem?_eq_getElem hj];rfl
   have hpl:=hs.pi _ (getElem_mem hj);have hdr:zd N.inputs=zd (N.inputs.take j)++(N.inputs[j].2++zd (N.inputs.drop (j+1))):=by
    have:N.inputs=N.inputs.take j++(N.inputs[j]::N.inputs.drop (j+1)):=by rw[← drop_eq_getElem_cons hj,take_append_drop]
    conv=>lhs;rw[this]
    unfold zd;rw[flatMap_append,flatMap_cons]
   generalize N.inputs[j]=p at *;rw[hv]at b2;cases b2;refine⟨[some (.ref (L+1)),some (.ref H.length),some (.str p.1),some (.ref a),z,none,none],by simp only[QX],?_⟩
   have b4:=a1 _ _ b3;refine ok_for (x:= .ref a) (vs:=za p.2) (gd:=some (a,.list (za p.2))) (h1:=h) (fun i m h=>(∃ z,m=[some (.ref (L+1)),some (.ref H.length),some (.str p.1),some (.ref a),z,none,none])∧Keep H h∧DictK h H.length ([0,1]++zd (N.inputs.take j)++p.2.take i) (2+20 * j+i))
    (by simp only[QX]) (zg _ _ _ b4) ⟨⟨_,rfl⟩,a1,by simpa using a2⟩ (fun j m h _ s=>by unfold guardOk;simp[s.2.1 _ _ b3]) ?_ ?_
   ·rintro i v m h hi ⟨⟨z,rfl⟩,a1,a2⟩
    have hil:=(gS.mp hi).1;rw[length_map]at hil;rw[getElem?_map,getElem?_eq_getElem hil]at hi;have hti:p.2.take (i+1)=p.2.take i++[p.2[i]]:=by rw[take_add_one,getElem?_eq_getElem hil];rfl
    have hpd:p.2=p.2.take i++(p.2[i]::p.2.drop (i+1)):=by rw[← drop_eq_getElem_cons hil,take_append_drop]
    generalize p.2[i]=x at *;simp only[Option.map_some,Option.some.injEq]at hi;subst hi;have hx:x∉[0,1]++zd (N.inputs.take j)++p.2.take i:=nodup_mid hu (q:=p.2.drop (i+1)++zd (N.inputs.drop (j+1))++outs N) (by
     unfold srcs;rw[hdr];conv=>lhs;rw[hpd]
     simp only[append_assoc,cons_append])
    refine⟨[some (.ref (L+1)),some (.ref H.length),some (.str p.1),some (.ref a),some (.int x),none,none],by simp only[QX],?_⟩
    refine ok_skip (h1:=h) (by simp only[QX,a2.has,hx]) ?_
    obtain⟨o,o1,o2⟩:=a2.put x (.bool true) (by omega)
    refine zw (v:= .bool true) (x:= .ref H.length) (y:= .int x) (h1:=h) (h2:=h) (h3:=h) (by simp only[QX]) (by simp only[QX]) (by simp only[QX]) o1 (zn ⟨by simp,⟨_,rfl⟩,a1.set (Nat.le_refl _),?_⟩)
    rw[hti,← append_assoc];exact o2
   ·rintro m h ⟨⟨z,rfl⟩,a1,a2⟩
    refine zn ⟨by simp,⟨_,_,_,rfl⟩,a1,?_⟩
    rw[length_map,take_length]at a2;rw[ht];unfold zd at *;rw[flatMap_append,flatMap_cons,flatMap_nil,append_nil,← append_assoc];exact a2.mono (by omega)
  ·rintro m h ⟨⟨x,y,z,rfl⟩,a1,a2⟩
   rw[i2.1,take_length]at a2;have a2:=a2.mono (n':=410) (by have:=hs.ci;omega)
   have hlt:=a2.lt;refine zb (v:= .ref h.length) (h1:=h++[.dict []]) (m1:=[some (.ref (L+1)),some (.ref H.length),x,y,z,some (.ref h.length),none]) (by simp only[QX,pairUp];rfl) (by simp only[QX]) ?_
   have a3:=a2.keep (Keep.push h [.dict []]);have a4:=DictI.new (H:=h);have a5:=a1.snoc [.dict []];generalize hr:h.length=r at *;generalize h++[AO.dict []]=h1 at *;have q1:=q.keep a5;have at1:=q1.attr;have hb:=bi_len q1.cel;refine ok_range (n:=N.cells.length) (h1:=h1) (fun j m h=>(∃ z w,m=[some (.ref (L+1)),some (.ref H.length),x,y,z,some (.ref r),w])∧Keep H h∧DictK h H.length (srcs N++(outs N).take j) (410+j)∧DictI h r (drvI (N.cells.take j)) j) (by simp only[QX,at1,hb,length_map]) (by have:=hs.cc;omega) ⟨⟨_,_,rfl⟩,a5,by rw[take_zero,append_nil];exact a3,a4⟩ ?_ ?_
   ·rintro j m h hj ⟨⟨z,w,rfl⟩,a1,a2,a3⟩
    have hjl:j<20:=Nat.lt_of_lt_of_le hj hs.cc;refine⟨[some (.ref (L+1)),some (.ref H.length),x,y,z,some (.ref r),some (.int j)],by simp only[QX],?_⟩
    have q2:=q.keep a1;have at2:=q2.attr;have c1:=cell_sub q2 hj;refine zb (v:= .int (cA N.cells j).out) (h1:=h) (m1:=[some (.ref (L+1)),some (.ref H.length),x,y,some (.int (cA N.cells j).out),some (.ref r),some (.int j)]) (by simp only[QX,at2,c1,Cell.v]) (by simp only[QX]) ?_
    have ho:(outs N)[j]? =some (cA N.cells j).out:=by unfold outs;rw[getElem?_map,get_cA hj];rfl
    have hx:(cA N.cells j).out∉srcs N++(outs N).take j:=nodup_mid hu (q:=(outs N).drop (j+1)) (by
     have hjo:=(gS.mp ho).1;have e1:(outs N)[j]=(cA N.cells j).out:=by rw[getElem?_eq_getElem hjo]at ho;exact Option.some.inj ho
     rw[append_assoc,← e1,← drop_eq_getElem_cons hjo,take_append_drop])
    refine ok_skip (h1:=h) (by simp only[QX,a2.has,hx]) ?_
    obtain⟨o,o1,o2⟩:=a2.put (cA N.cells j).out (.bool true) (by omega)
    refine zw (v:= .bool true) (x:= .ref H.length) (y:= .int (cA N.cells j).out) (h1:=h) (h2:=h) (h3:=h) (by simp only[QX]) (by simp only[QX]) (by simp only[QX]) o1 ?_
    have a3':=a3.other (r2:=H.length) (o:=o) (by omega)
    obtain⟨o',p1,p2⟩:=a3'.put (cA N.cells j).out j (by omega)
    refine zw (v:= .int j) (x:= .ref r) (y:= .int (cA N.cells j).out) (h1:=h.set H.length o) (h2:=h.set H.length o) (h3:=h.set H.length o) (by simp only[QX]) (by simp only[QX]) (by simp only[QX]) p1 (zn ⟨by simp,⟨_,_,rfl⟩,(a1.set (Nat.le_refl _)).set (by omega),?_,?_⟩)
    ·rw[zv ho,← append_assoc]
     exact o2.other (by omega)
    ·rw[zv (get_cA hj),drvs_snoc,length_take,Nat.min_eq_left (by omega)]
     ·exact p2
     ·intro hc
      rw[map_take]at hc;exact hx (mem_append_right _ hc)
   ·rintro m h ⟨⟨z,w,rfl⟩,a1,a2,a3⟩
    rw[take_length]at a3;exact zA (v:= .ref r) (h1:=h) (by simp only[QX]) (Or.inl ⟨_,rfl,r,rfl,a1,a3.mono hs.cc⟩)
 exact⟨r,H',e,kp,hd⟩
theorem ok_cont{cl:Caller}{W:Nat}{ss:List S}{m:Loc}{h:Hp}{Q:Fl→Loc→Hp→Prop}(q:Q .cont m h):Ok (exL cl W (.cont::ss) m h) Q:=by
 refine⟨.cont,m,h,?_,q⟩
 rw[exL];rfl
theorem and_short{cl:Caller}{a b:E}{m:Loc}{h:Hp}(e1:evE cl a m [] h=some (.bool false,h)):tstE cl (.bop true [a,b]) m h=some (false,h):=by
 unfold tstE evE;simp only[evB,e1,Option.bind_eq_bind,Option.bind_some,truthy,Option.pure_def,Bool.false_eq_true,if_false]
def updU(U:Nat→List Nat)(b:Nat)(v:List Nat):Nat→List Nat:=fun x=>if b=x then v else U x
def UsersAt(h:Hp)(u lo:Nat)(U:Nat→List Nat)(n:Nat):Prop:=∃ es,h[u]? =some (.dict es)∧es.length≤n∧(∀ b,(U b).length≤n)∧(∀ b:Nat,(dfind es (.int b)=none∧U b=[])∨∃ a,dfind es (.int b)=some (.ref a)∧lo<a∧h[a]? =some (.list (zf (U b))))∧(∀ (b b' a:Nat),dfind es (.int b)=some (.ref a)→dfind es (.int b')=some (.ref a)→b=b')
theorem UsersAt.frame{h h':Hp}{u lo n:Nat}{U:Nat→List Nat}(q:UsersAt h u lo U n)(k:∀ k o,(k=u∨lo<k)→h[k]? =some o→h'[k]? =some o):UsersAt h' u lo U n:=by
 obtain⟨es,a,b,c,d,e⟩:=q;refine⟨es,k _ _ (Or.inl rfl) a,b,c,fun x=> ?_,e⟩
 rcases d x with d | ⟨y,d1,d2,d3⟩
 ·exact Or.inl d
 ·exact Or.inr ⟨y,d1,d2,k _ _ (Or.inr d2) d3⟩
theorem UsersAt.mono{h:Hp}{u lo n n':Nat}{U:Nat→List Nat}(q:UsersAt h u lo U n)(k:n≤n'):UsersAt h u lo U n':=by
 obtain⟨es,a,b,c,d,e⟩:=q;exact⟨es,a,by omega,fun x=>Nat.le_trans (c x) k,d,e⟩
theorem users_push{cl:Caller}{W:Nat}{ss:List S}{m:Loc}{h:Hp}{Q:Fl→Loc→Hp→Prop}{u lo n b i:Nat}{U:Nat→List Nat}(q:UsersAt h u lo U n)(hn:n<1000)(hu:u≤lo)(hl:lo<h.length)(l9:∀ h,locG m 9 h=some (.int b,h))(l4:∀ h,locG m 4 h=some (.ref u,h))(l6:∀ h,locG m 6 h=some (.int i,h))
  (k:∀ h',UsersAt h' u lo (updU U b (U b++[i])) (n+1)→(∀ k o,k≤lo→k≠u→h[k]? =some o→h'[k]? =some o)→h.length≤h'.length→Ok (exL cl W ss m h') Q):
  Ok (exL cl W (.ite (.cmp .notIn (.loc 9) (.loc 4)) [.setSub (.loc 4) (.loc 9) (.list [])] []:: .expr (.bm .append (.sub (.loc 4) (.loc 9)) [(.loc 6)])::ss) m h) Q:=by
 obtain⟨es,a1,a2,a3,a4,a5⟩:=q;have hul:=(gS.mp a1).1;have fin:∀ (h1:Hp) (es1:List (AV × AV)) (a:Nat),h1[u]? =some (.dict es1)→es1.length≤n+1→dfind es1 (.int b)=some (.ref a)→lo<a→h1[a]? =some (.list (zf (U b)))→
   (∀ x:Nat,x≠b→(dfind es1 (.int x)=none∧U x=[])∨∃ a,dfind es1 (.int x)=some (.ref a)∧lo<a∧h1[a]? =some (.list (zf (U x))))→(∀ (b b' a:Nat),dfind es1 (.int b)=some (.ref a)→dfind es1 (.int b')=some (.ref a)→b=b')→(∀ k o,k≤lo→k≠u→h[k]? =some o→h1[k]? =some o)→h.length≤h1.length→
   Ok (exL cl W (.expr (.bm .append (.sub (.loc 4) (.loc 9)) [(.loc 6)])::ss) m h1) Q:=by
  intro h1 es1 a e1 e2 e3 e4 e5 e6 e7 e8 e9;have hal:=(gS.mp e5).1;refine ok_expr (zM (a:=a) (h1:=h1) (h2:=h1) (v:= .int i) (by simp only[QX,l4,l9,subV,e1,isKey,e3]) e5 (by simp only[QX,l6]) e5 (by rw[zG];have:=a3 b;omega)) (k _ ⟨es1,by rw[getElem?_set_ne (by omega)];exact e1,e2,fun x=> ?_,fun x=> ?_,e7⟩ (fun k o c1 c2 c3=>by rw[getElem?_set_ne (by omega)];exact e8 k o c1 c2 c3) (by rw[length_set];exact e9))
  ·unfold updU
   split
   ·have:=a3 b;simp;omega
   ·have:=a3 x;omega
  ·by_cases q:b=x
   ·subst q
    refine Or.inr ⟨a,e3,e4,?_⟩
    rw[zB _ _ _ hal];unfold updU zf;simp
   ·unfold updU
    rw[if_neg q];rcases e6 x (fun e=>q e.symm) with c | ⟨y,c1,c2,c3⟩
    ·exact Or.inl c
    ·refine Or.inr ⟨y,c1,c2,?_⟩
     have:a≠y:=fun e=>q (e7 b x a e3 (by rw[c1,e]))
     rw[getElem?_set_ne this];exact c3
 rcases a4 b with⟨b1,b2⟩ | ⟨a,b1,b2,b3⟩
 ·refine ok_if (c:=true) (h1:=h) (by simp only[QX,l9,l4,containsV,a1,isKey,b1,Option.isSome_none,Bool.not_false]) (fun _=> ?_) (fun e=>by simp at e)
  have c1:=Keep.push h [.list []] _ _ a1;refine zw (v:= .ref h.length) (x:= .ref u) (y:= .int b) (h1:=h++[.list []]) (h2:=h++[.list []]) (h3:=h++[.list []]) (by simp only[QX]) (by simp only[QX,l4]) (by simp only[QX,l9]) (h4:=(h++[AO.list []]).set u (AO.dict (dput es (.int b) (.ref h.length)))) (by simp only[setSubV,c1,isKey];rw[if_pos ⟨trivial,Nat.lt_of_le_of_lt a2 (zp (by omega))⟩]) (ok_end ?_)
  refine fin _ (dput es (.int b) (.ref h.length)) h.length (zB _ _ _ (by simp;omega)) (by have:=dput_len es (.int b) (.ref h.length);omega) (by rw[dfind_dput,if_pos rfl]) hl (by rw[getElem?_set_ne (by omega),ze,b2];rfl) (fun x hx=> ?_) (fun x y a h1 h2=> ?_) (fun k o c1 c2 c3=> ?_) (by simp)
  ·have hne:¬ AV.int b=AV.int x:=fun e=>hx (by injection e with e;omega)
   rw[dfind_dput,if_neg hne];rcases a4 x with c | ⟨y,c1,c2,c3⟩
   ·exact Or.inl c
   ·exact Or.inr ⟨y,c1,c2,by rw[getElem?_set_ne (by omega)];exact Keep.push _ _ _ _ c3⟩
  ·rw[dfind_dput]at h1 h2
   have old:∀ z:Nat,dfind es (.int z)≠some (.ref h.length):=by
    intro z hz;rcases a4 z with c | ⟨y,c1,c2,c3⟩
    ·rw[c.1]at hz;cases hz
    ·rw[c1]at hz;cases hz
     have:=(gS.mp c3).1;omega
   by_cases q1:b=x
   ·by_cases q2:b=y
    ·omega
    ·have hne:¬ AV.int b=AV.int y:=fun e=>q2 (by injection e with e;omega)
     rw[if_pos (by rw[q1])]at h1
     rw[if_neg hne]at h2;cases h1;exact absurd h2 (old _)
   ·have hne:¬ AV.int b=AV.int x:=fun e=>q1 (by injection e with e;omega)
    rw[if_neg hne]at h1;by_cases q2:b=y
    ·rw[if_pos (by rw[q2])]at h2
     cases h2;exact absurd h1 (old _)
    ·have hne2:¬ AV.int b=AV.int y:=fun e=>q2 (by injection e with e;omega)
     rw[if_neg hne2]at h2;exact a5 x y a h1 h2
  ·rw[getElem?_set_ne (by omega)]
   exact Keep.push _ _ _ _ c3
 ·refine ok_if (c:=false) (h1:=h) (by simp only[QX,l9,l4,containsV,a1,isKey,b1,Option.isSome_some,Bool.not_true]) (fun e=>by simp at e) (fun _=>ok_end ?_)
  exact fin h es a a1 (by omega) b1 b2 b3 (fun x _=>a4 x) a5 (fun k o _ _ c=>c) (Nat.le_refl _)
theorem UsersAt.get{cl:Caller}{m:Loc}{h:Hp}{u lo n b:Nat}{U:Nat→List Nat}{e:E}(q:UsersAt h u lo U n)(hl:lo<h.length)(l4:∀ h,locG m 4 h=some (.ref u,h))(e1:evE cl e m [] h=some (.int b,h)):
  ∃ a,evE cl (.bm .get (.loc 4) [e,.list []]) m [] h=some (.ref a,h++[.list []])∧lo<a∧(h++[.list []])[a]? =some (.list (zf (U b))):=by
 obtain⟨es,a1,a2,a3,a4,a5⟩:=q;have c1:=Keep.push h [.list []] _ _ a1;have ev:∀ x,(dfind es (.int b)).getD (.ref h.length)=x→evE cl (.bm .get (.loc 4) [e,.list []]) m [] h=some (x,h++[.list []]):=by
  intro x hx;simp only[QX,l4,bmOk,a1,e1,bmV,c1,isKey,hx]
 rcases a4 b with⟨b1,b2⟩ | ⟨a,b1,b2,b3⟩
 ·exact⟨h.length,ev _ (by rw[b1];rfl),hl,by rw[ze,b2];rfl⟩
 ·exact⟨a,ev _ (by rw[b1];rfl),b2,Keep.push _ _ _ _ b3⟩
def wfC(C:Nat→Bool)(w:Nat→Int):Int→Option Int:=fun x=>if 0≤x∧C x.toNat=true then some (w x.toNat) else none
theorem wfC_get{C:Nat→Bool}{w:Nat→Int}{i:Nat}(h:C i=true):wfC C w i=some (w i):=by unfold wfC;simp[h]
theorem wfC_upd{C:Nat→Bool}{w:Nat→Int}{i:Nat}{v:Int}(h:C i=true):upd (wfC C w) i v=wfC C (updN w i v):=by
 funext x
 unfold upd wfC updN;by_cases q:(i:Int)=x
 ·subst q;simp[h]
 ·by_cases q2:0≤x
  ·have:¬ i=x.toNat:=by omega
   simp[q,this]
  ·simp[q,q2]
def Cb(l:List Cell)(j:Nat)(i:Nat):Bool:=decide (i<j)&& !isSt (cA l i).kind
theorem Cb_comb{l:List Cell}{i:Nat}:Cb l l.length i=true↔i∈combs l:=by
 unfold Cb combs;rw[mem_filter,mem_range,Bool.and_eq_true,decide_eq_true_iff]
theorem Cb_step{l:List Cell}{j:Nat}{w:Nat→Int}(h:isSt (cA l j).kind=false):upd (wfC (Cb l j) w) j (w j)=wfC (Cb l (j+1)) w:=by
 funext x
 unfold upd wfC Cb;by_cases q:(j:Int)=x
 ·subst q;simp[h]
 ·rw[if_neg q]
  by_cases q2:0≤x
  ·have e:decide (x.toNat<j+1)=decide (x.toNat<j):=by rw[decide_eq_decide];omega
   rw[e]
  ·simp[q2]
theorem Cb_skip{l:List Cell}{j:Nat}{w:Nat→Int}(h:isSt (cA l j).kind=true):wfC (Cb l j) w=wfC (Cb l (j+1)) w:=by
 funext x
 unfold wfC Cb;by_cases q:(j:Int)=x
 ·subst q;simp[h]
 ·by_cases q2:0≤x
  ·have e:decide (x.toNat<j+1)=decide (x.toNat<j):=by rw[decide_eq_decide];omega
   rw[e]
  ·simp[q2]
theorem ready0_succ(l:List Cell)(j:Nat):ready0 l (j+1)=ready0 l j++(if isSt (cA l j).kind=false∧(pre l j).length=0 then [j] else []):=by
 unfold ready0;rw[range_succ,filter_append];congr 1
 cases h:isSt (cA l j).kind<;>by_cases h2:pre l j=[]<;>simp[h,h2]
theorem ready0_len(l:List Cell)(j:Nat):(ready0 l j).length≤j:=by
 have:=length_filter_le (fun i=> !isSt (cA l i).kind&&decide ((pre l i).length=0)) (List.range j)
 rw[length_range]at this;exact this
theorem natsV_snoc(l:List Nat)(i:Nat):zf l++[.int i]=zf (l++[i]):=by unfold zf;simp
theorem cmp_zero(k:Nat):decide ((k:Int)=0)=decide (k=0):=by rw[decide_eq_decide];omega
theorem ordered_cells_s{n L d M:Nat}{N:NL}{H:Hp}(q:NetA H L N)(hs:Small N)(hd:DictI H d (drvI N.cells) M):∃ a H' R w,callF P 1000 (n+2) 11 [.ref (L+1),.ref d] H=some (.ref a,H')∧Keep H H'∧H'[a]? =some (.list (zf R))∧KInv N.cells R.length R w∧H.length≤a:=by
 obtain⟨v,H',e,a,R,w,rfl,r1,r2,r3,r4⟩:∃ v H',callF P 1000 (n+2) 11 [.ref (L+1),.ref d] H=some (v,H')∧∃ a R w,v= .ref a∧Keep H H'∧H'[a]? =some (.list (zf R))∧KInv N.cells R.length R w∧H.length≤a:=by
  refine zF (fn:=f_ordered_cells) rfl rfl ?_
  unfold f_ordered_cells;have hk:=fun k H=>is_state_kind_s (W:=1000) (n:=n) (k:=k) (H:=H)
  generalize callF P 1000 (n+1)=cl at *;simp only[SA,Nat.reduceSub,SN];have at0:=q.attr;have hn20:=hs.cc;refine zb (v:= .ref (L+4)) (h1:=H) (m1:=[some (.ref (L+1)),some (.ref d),some (.ref (L+4)),none,none,none,none,none,none,none,none]) (by simp only[QX,at0]) (by simp only[QX]) ?_
  refine zb (v:= .ref H.length) (h1:=H++[.dict []]) (m1:=[some (.ref (L+1)),some (.ref d),some (.ref (L+4)),some (.ref H.length),none,none,none,none,none,none,none]) (by simp only[QX,pairUp];rfl) (by simp only[QX]) ?_
  refine zb (v:= .ref (H.length+1)) (h1:=(H++[.dict []])++[.dict []]) (m1:=[some (.ref (L+1)),some (.ref d),some (.ref (L+4)),some (.ref H.length),some (.ref (H.length+1)),none,none,none,none,none,none]) (by simp only[QX,pairUp,length_append,length_singleton];rfl) (by simp only[QX]) ?_
  refine zb (v:= .ref (H.length+2)) (h1:=((H++[.dict []])++[.dict []])++[.list []]) (m1:=[some (.ref (L+1)),some (.ref d),some (.ref (L+4)),some (.ref H.length),some (.ref (H.length+1)),some (.ref (H.length+2)),none,none,none,none,none]) (by simp only[QX,length_append,length_singleton]<;>rfl) (by simp only[QX]) ?_
  rw[append_assoc,append_assoc];have k0:Keep H (H++([AO.dict []]++([AO.dict []]++[AO.list []]))):=Keep.push _ _;have w0:(H++([AO.dict []]++([AO.dict []]++[AO.list []])))[H.length]? =some (.dict []):=ze;have u0:(H++([AO.dict []]++([AO.dict []]++[AO.list []])))[H.length+1]? =some (.dict []):=get_off;have l0:(H++([AO.dict []]++([AO.dict []]++[AO.list []])))[H.length+2]? =some (.list []):=get_off;generalize H++([AO.dict []]++([AO.dict []]++[AO.list []]))=h0 at *;have q0:=q.keep k0;have hb:=bi_len q0.cel;refine ok_range (n:=N.cells.length) (h1:=h0) (fun j m h=>(∃ x6 x7 x8 x9,m=[some (.ref (L+1)),some (.ref d),some (.ref (L+4)),some (.ref H.length),some (.ref (H.length+1)),some (.ref (H.length+2)),x6,x7,x8,x9,none])∧Keep H h∧DictI h H.length (wfC (Cb N.cells j) (fun i=>((pre N.cells i).length:Nat))) j∧UsersAt h (H.length+1) (H.length+2) (users0 N.cells j) (20 * j)∧h[H.length+2]? =some (.list (zf (ready0 N.cells j))))
   (by simp only[QX,hb,length_map]) (by omega) ⟨⟨none,none,none,none,rfl⟩,k0,⟨[],w0,by simp,fun x=>by unfold wfC Cb;simp[dfind]⟩,⟨[],u0,by simp,fun b=>by simp[users0],fun b=>Or.inl ⟨rfl,rfl⟩,fun b b' a e=>by simp[dfind]at e⟩,l0⟩ ?_ ?_
  ·rintro j m h hj ⟨⟨x6,x7,x8,x9,rfl⟩,a1,a2,a3,a4⟩
   refine⟨[some (.ref (L+1)),some (.ref d),some (.ref (L+4)),some (.ref H.length),some (.ref (H.length+1)),some (.ref (H.length+2)),some (.int j),x7,x8,x9,none],by simp only[QX],?_⟩
   have q1:=q.keep a1;have c1:=cell_sub q1 hj;refine ok_if (c:=isSt (cA N.cells j).kind) (h1:=h) (by simp only[QX,c1,Cell.v,hk]) ?_ ?_
   ·intro e
    refine ok_cont ⟨fun x=>by simp at x,fun _=>⟨by simp,⟨_,_,_,_,rfl⟩,a1,?_,?_,?_⟩⟩
    ·rw[← Cb_skip e];exact a2.mono (by omega)
    ·have:users0 N.cells (j+1)=users0 N.cells j:=by funext b;rw[users0_succ,if_pos e,append_nil]
     rw[this];exact a3.mono (by omega)
    ·rw[ready0_succ,e];simpa using a4
   ·intro e
    refine ok_end ?_
    refine zb (v:= .int 0) (h1:=h) (m1:=[some (.ref (L+1)),some (.ref d),some (.ref (L+4)),some (.ref H.length),some (.ref (H.length+1)),some (.ref (H.length+2)),some (.int j),some (.int 0),x8,x9,none]) (by simp only[QX]) (by simp only[QX]) ?_
    have hil:=hs.ni _ (cA_mem hj);refine ok_for (x:= .tup (za (cA N.cells j).ins)) (vs:=za (cA N.cells j).ins) (gd:=none) (h1:=h) (fun k m h=>(∃ x8 x9,m=[some (.ref (L+1)),some (.ref d),some (.ref (L+4)),some (.ref H.length),some (.ref (H.length+1)),some (.ref (H.length+2)),some (.int j),some (.int ((((cA N.cells j).ins.take k).filterMap (pre1 N.cells)).length:Nat)),x8,x9,none])∧Keep H h∧DictI h H.length (wfC (Cb N.cells j) (fun i=>((pre N.cells i).length:Nat))) j∧UsersAt h (H.length+1) (H.length+2) (fun b=>users0 N.cells j b++List.replicate ((((cA N.cells j).ins.take k).filterMap (pre1 N.cells)).count b) j) (20 * j+k)∧h[H.length+2]? =some (.list (zf (ready0 N.cells j))))
     (by simp only[QX,c1,Cell.v]) rfl ⟨⟨x8,x9,rfl⟩,a1,a2,by simpa using a3,a4⟩ (fun _ _ _ _ _=>rfl) ?_ ?_
    ·rintro k v m h hv ⟨⟨x8,x9,rfl⟩,a1,a2,a3,a4⟩
     have hkl:=(gS.mp hv).1;rw[length_map]at hkl;rw[getElem?_map,getElem?_eq_getElem hkl]at hv;have htk:(cA N.cells j).ins.take (k+1)=(cA N.cells j).ins.take k++[(cA N.cells j).ins[k]]:=by rw[take_add_one,getElem?_eq_getElem hkl];rfl
     generalize (cA N.cells j).ins[k]=x at *;simp only[Option.map_some,Option.some.injEq]at hv;subst hv;refine⟨[some (.ref (L+1)),some (.ref d),some (.ref (L+4)),some (.ref H.length),some (.ref (H.length+1)),some (.ref (H.length+2)),some (.int j),some (.int ((((cA N.cells j).ins.take k).filterMap (pre1 N.cells)).length:Nat)),some (.int x),x9,none],by simp only[QX],?_⟩
     have hd1:=hd.keep a1;refine zb (v:= .int ((drvI N.cells x).getD (-1))) (h1:=h) (m1:=[some (.ref (L+1)),some (.ref d),some (.ref (L+4)),some (.ref H.length),some (.ref (H.length+1)),some (.ref (H.length+2)),some (.int j),some (.int ((((cA N.cells j).ins.take k).filterMap (pre1 N.cells)).length:Nat)),some (.int x),some (.int ((drvI N.cells x).getD (-1))),none]) (by simp only[QX,hd1.ok,hd1.get]) (by simp only[QX]) ?_
     rw[htk,filterMap_append];have skip:pre1 N.cells x=none→∀ w,(((cA N.cells j).ins.take k).filterMap (pre1 N.cells)++[x].filterMap (pre1 N.cells))=w→w=((cA N.cells j).ins.take k).filterMap (pre1 N.cells):=by
      intro hp w hw;rw[← hw];simp[hp]
     have q2:=q.keep a1;cases hdr:drvs N.cells x with
     | none=>
      have e1:(drvI N.cells x).getD (-1)= -1:=by unfold drvI;rw[hdr];rfl
      have e2:pre1 N.cells x=none:=by unfold pre1;rw[hdr]
      rw[e1,skip e2 _ rfl];refine ok_skip (h1:=h) (and_short (by simp only[QX];rfl)) (zn ⟨by simp,⟨_,_,rfl⟩,a1,a2,a3.mono (by omega),a4⟩)
     | some b=>
      have e1:(drvI N.cells x).getD (-1)=b:=by unfold drvI;rw[hdr];rfl
      have hbl:b<N.cells.length:=by
       unfold drvs at hdr;rw[findIdx?_eq_some_iff_findIdx_eq]at hdr;exact hdr.1
      have c2:=cell_sub q2 hbl;rw[e1];refine ok_if (c:=true&& !isSt (cA N.cells b).kind) (h1:=h) (and2 (x:=true) (y:= !isSt (cA N.cells b).kind) (by simp only[QX];try (congr 3;try simp)) (by simp only[QX,c2,Cell.v,hk])) ?_ ?_
      ·intro hst
       have hst:isSt (cA N.cells b).kind=false:=by simpa using hst
       have e2:pre1 N.cells x=some b:=by unfold pre1;rw[hdr];simp[hst]
       have e3:[x].filterMap (pre1 N.cells)=[b]:=by simp[e2]
       rw[e3];generalize ((cA N.cells j).ins.take k).filterMap (pre1 N.cells)=pk at *;refine ok_augLoc (x:= .int (pk.length:Nat)) (v:= .int 1) (r:= .int ((pk++[b]).length:Nat)) (h1:=h) (h2:=h) (h3:=h) (m1:=[some (.ref (L+1)),some (.ref d),some (.ref (L+4)),some (.ref H.length),some (.ref (H.length+1)),some (.ref (H.length+2)),some (.int j),some (.int ((pk++[b]).length:Nat)),some (.int x),some (.int b),none]) (by simp only[QX]) (by simp only[QX]) (by simp only[QX,length_append,length_singleton];rfl) (by simp only[QX]) ?_
       have hll:=(gS.mp a4).1;refine users_push (i:=j) (b:=b) a3 (by omega) (by omega) hll (fun h=>by simp only[QX]) (fun h=>by simp only[QX]) (fun h=>by simp only[QX]) (fun h' b1 b2 b3=>zx ⟨by simp,⟨_,_,rfl⟩,?_,?_,?_,?_⟩)
       ·intro i o ho
        have:=(gS.mp ho).1;exact b2 i o (by omega) (by omega) (a1 i o ho)
       ·obtain⟨es,f1,f2,f3⟩:=a2
        exact⟨es,b2 _ _ (by omega) (by omega) f1,f2,f3⟩
       ·have:updU (fun b=>users0 N.cells j b++List.replicate (pk.count b) j) b ((users0 N.cells j b++List.replicate (pk.count b) j)++[j])=fun b'=>users0 N.cells j b'++List.replicate ((pk++[b]).count b') j:=by
         funext b'
         unfold updU;rw[count_append,count_singleton];by_cases qb:b=b'
         ·subst qb
          rw[if_pos rfl,beq_self_eq_true,if_pos rfl,append_assoc,replicate_succ']
         ·have:(b == b')=false:=by simpa using qb
          rw[if_neg qb,this];simp
        rw[this]at b1;exact b1
       ·exact b2 _ _ (Nat.le_refl _) (by omega) a4
      ·intro hst
       have hst:isSt (cA N.cells b).kind=true:=by simpa using hst
       have e2:pre1 N.cells x=none:=by unfold pre1;rw[hdr];simp[hst]
       rw[skip e2 _ rfl];exact zx ⟨by simp,⟨_,_,rfl⟩,a1,a2,a3.mono (by omega),a4⟩
    ·rintro m h ⟨⟨x8,x9,rfl⟩,a1,a2,a3,a4⟩
     rw[length_map,take_length]at a3;rw[length_map,take_length];change UsersAt h (H.length+1) (H.length+2) (fun b=>users0 N.cells j b++List.replicate ((pre N.cells j).count b) j) _ at a3
     change Ok (exL cl 1000 _ [some (.ref (L+1)),some (.ref d),some (.ref (L+4)),some (.ref H.length),some (.ref (H.length+1)),some (.ref (H.length+2)),some (.int j),some (.int ((pre N.cells j).length:Nat)),x8,x9,none] h) _
     have hu:(fun b=>users0 N.cells j b++List.replicate ((pre N.cells j).count b) j)=users0 N.cells (j+1):=by
      funext b;rw[users0_succ,e];simp
     rw[hu]at a3;obtain⟨o,o1,o2⟩:=a2.put j ((pre N.cells j).length:Nat) (by omega)
     have hcb:=Cb_step (w:=fun i=>((pre N.cells i).length:Nat)) e
     rw[hcb]at o2;have a4':(h.set H.length o)[H.length+2]? =some (.list (zf (ready0 N.cells j))):=by rw[getElem?_set_ne (by omega)];exact a4
     have a3':UsersAt (h.set H.length o) (H.length+1) (H.length+2) (users0 N.cells (j+1)) (20 * (j+1)):=(a3.frame (fun k o hk ho=>by rw[getElem?_set_ne (by omega)];exact ho)).mono (by omega)
     have a1':Keep H (h.set H.length o):=a1.set (Nat.le_refl _);refine zw (v:= .int ((pre N.cells j).length:Nat)) (x:= .ref H.length) (y:= .int j) (h1:=h) (h2:=h) (h3:=h) (by simp only[QX]) (by simp only[QX]) (by simp only[QX]) o1 ?_
     generalize h.set H.length o=h2 at *;refine ok_if (c:=decide ((pre N.cells j).length=0)) (h1:=h2) (by simp only[QX,cmp_zero]) ?_ ?_
     ·intro e0
      have e0:=of_decide_eq_true e0;have hr1:=ready0_len N.cells j;refine ok_expr (zM (a:=H.length+2) (h1:=h2) (h2:=h2) (v:= .int j) (by simp only[QX]) a4' (by simp only[QX]) a4' (by rw[zG];omega)) (zx ⟨by simp,⟨_,_,_,_,rfl⟩,a1'.set (by omega),o2.other (by omega),a3'.frame (fun k o hk ho=>by rw[getElem?_set_ne (by omega)];exact ho),?_⟩)
      rw[zB _ _ _ (gS.mp a4').1,natsV_snoc,ready0_succ,if_pos ⟨e,e0⟩]
     ·intro e0
      have e0:=of_decide_eq_false e0;refine zx ⟨by simp,⟨_,_,_,_,rfl⟩,a1',o2,a3',?_⟩
      rw[ready0_succ,if_neg (fun c=>e0 c.2),append_nil]
      exact a4'
  ·rintro m h ⟨⟨x6,x7,x8,x9,rfl⟩,a1,a2,a3,a4⟩
   refine zb (v:= .int 0) (h1:=h) (m1:=[some (.ref (L+1)),some (.ref d),some (.ref (L+4)),some (.ref H.length),some (.ref (H.length+1)),some (.ref (H.length+2)),x6,x7,x8,x9,some (.int 0)]) (by simp only[QX]) (by simp only[QX]) ?_
   have kinit:=KInv.init N.cells;refine ok_while (fun k m h=>∃ t R w x6,k+t=20∧m=[some (.ref (L+1)),some (.ref d),some (.ref (L+4)),some (.ref H.length),some (.ref (H.length+1)),some (.ref (H.length+2)),x6,x7,x8,x9,some (.int (t:Nat))]∧Keep H h∧KInv N.cells t R w∧DictI h H.length (wfC (Cb N.cells N.cells.length) w) 20∧UsersAt h (H.length+1) (H.length+2) (users0 N.cells N.cells.length) 400∧h[H.length+2]? =some (.list (zf R)))
    (fun m h=>∃ R w x6 t,m=[some (.ref (L+1)),some (.ref d),some (.ref (L+4)),some (.ref H.length),some (.ref (H.length+1)),some (.ref (H.length+2)),x6,x7,x8,x9,some (.int (t:Nat))]∧Keep H h∧KInv N.cells R.length R w∧h[H.length+2]? =some (.list (zf R))) 20 (by omega) ⟨0,_,_,x6,rfl,rfl,a1,kinit,a2.mono hn20,a3.mono (by omega),a4⟩ ?_ ?_
   ·rintro k m h ⟨t,R,w,x6,hkt,rfl,a1,ki,a2,a3,a4⟩
    have hb:=bi_len a4;have hRl:=ki.lens;by_cases htl:t<R.length
    ·right
     refine⟨h,by simp only[QX,hb,zG];congr 2;simp;omega,?_⟩
     have hRt:R[t]? =some R[t]:=getElem?_eq_getElem htl;generalize R[t]=b at hRt;have hsub:evE cl (.sub (.loc 5) (.loc 10)) [some (.ref (L+1)),some (.ref d),some (.ref (L+4)),some (.ref H.length),some (.ref (H.length+1)),some (.ref (H.length+2)),x6,x7,x8,x9,some (.int (t:Nat))] [] h=some (.int b,h):=by
      have:(zf R)[t]? =some (.int b):=by unfold zf;rw[getElem?_map,hRt];rfl
      simp only[QX,sub_list a4,this]
     have hll:=(gS.mp a4).1;obtain⟨a,g1,g2,g3⟩:=a3.get (b:=b) hll (fun h=>by simp only[QX]) hsub
     have k1:=Keep.push h [.list []];have a1:=a1.trans k1;have a2:=a2.keep k1;have a3:=a3.frame (fun k o _ ho=>k1 k o ho)
     have a4:=k1 _ _ a4;generalize h++[AO.list []]=h1 at *;refine ok_for (x:= .ref a) (vs:=zf (users0 N.cells N.cells.length b)) (gd:=some (a,.list (zf (users0 N.cells N.cells.length b)))) (h1:=h1) (fun p m h=>∃ R' w' x6,m=[some (.ref (L+1)),some (.ref d),some (.ref (L+4)),some (.ref H.length),some (.ref (H.length+1)),some (.ref (H.length+2)),x6,x7,x8,x9,some (.int (t:Nat))]∧KMid N.cells t R w b ((users0 N.cells N.cells.length b).take p) R' w'∧DictI h H.length (wfC (Cb N.cells N.cells.length) w') 20∧h[H.length+2]? =some (.list (zf R'))∧(∀ k o,(k<H.length∨k=H.length+1∨H.length+2<k)→h1[k]? =some o→h[k]? =some o))
      g1 (zg _ _ _ g3) ⟨R,w,x6,rfl,ki.mid b,a2,a4,fun k o _ e=>e⟩ (fun j m h _ ⟨R',w',x6,_,_,_,_,hf⟩=>by unfold guardOk;simp[hf _ _ (by omega) g3]) ?_ ?_
     ·rintro p v m h hv ⟨R',w',x6,rfl,km,b2,b4,hf⟩
      have hpl:=(gS.mp hv).1;rw[zG]at hpl;have hup:(users0 N.cells N.cells.length b)[p]? =some (users0 N.cells N.cells.length b)[p]:=getElem?_eq_getElem hpl;have hic:=users_comb N.cells b _ (getElem_mem hpl);have hsp:users0 N.cells N.cells.length b=(users0 N.cells N.cells.length b).take p++((users0 N.cells N.cells.length b)[p]::(users0 N.cells N.cells.length b).drop (p+1)):=by rw[← drop_eq_getElem_cons hpl,take_append_drop]
      have hcnt:=users_count N.cells b;rw[show zf (users0 N.cells N.cells.length b)=(users0 N.cells N.cells.length b).map fun (i:Nat)=>AV.int i from rfl,getElem?_map,hup]at hv
      generalize (users0 N.cells N.cells.length b)[p]=i at *;generalize (users0 N.cells N.cells.length b).drop (p+1)=qt at *;simp only[Option.map_some,Option.some.injEq]at hv;subst hv;have hcb:=Cb_comb.mpr hic;have hcnt2:∀ i'∈combs N.cells,((users0 N.cells N.cells.length b).take p++i::qt).count i'≤(pre N.cells i').count b:=by
       intro i' hi';rw[← hsp,hcnt i' hi'];exact Nat.le_refl _
      have km2:=KMid.step (qt:=qt) ki hRt km hic (hcnt2 i hic);have hml:=km2.lens;refine⟨[some (.ref (L+1)),some (.ref d),some (.ref (L+4)),some (.ref H.length),some (.ref (H.length+1)),some (.ref (H.length+2)),some (.int i),x7,x8,x9,some (.int (t:Nat))],by simp only[QX],?_⟩
      obtain⟨es,f1,f2,f3⟩:=b2;have f4:=f3 i;rw[wfC_get hcb]at f4;have hsv:setSubV h (.ref H.length) (.int i) (.int (w' i - 1))=some (h.set H.length (.dict (dput es (.int i) (.int (w' i - 1))))):=by
       simp only[setSubV,f1,isKey];rw[if_pos ⟨trivial,Nat.lt_of_le_of_lt f2 (zp (by omega))⟩]
      have b2':DictI (h.set H.length (.dict (dput es (.int i) (.int (w' i - 1))))) H.length (wfC (Cb N.cells N.cells.length) (updN w' i (w' i - 1))) 20:=by
       refine⟨_,zB _ _ _ (gS.mp f1).1,?_,?_⟩
       ·have:∀ (es:List (AV × AV)) (k v x:AV),dfind es k=some x→(dput es k v).length=es.length:=by
         intro es k v x;induction es with
         | nil=>intro e;simp[dfind]at e
         | cons p r ih=>
          obtain⟨a,y⟩:=p;intro e;unfold dfind at e;unfold dput;split
          ·rfl
          ·rename_i hne
           rw[if_neg hne]at e;rw[length_cons,length_cons,ih e]
        rw[this _ _ _ _ f4];exact f2
       ·intro z
        rw[dfind_dput,← wfC_upd hcb];unfold upd;by_cases qz:(i:Int)=z
        ·subst qz;simp
        ·have:¬ AV.int (i:Int)=AV.int z:=fun e=>qz (by injection e)
         rw[if_neg qz,if_neg this,f3]
      refine ok_augSub (x:= .ref H.length) (y:= .int i) (old:= .int (w' i)) (v:= .int 1) (r:= .int (w' i - 1)) (h1:=h) (h2:=h) (h3:=h) (h4:=h) (by simp only[QX]) (by simp only[QX]) (by simp only[subV,f1,isKey,if_true,f4,Option.map_some]) (by simp only[QX]) (by simp only[QX]) hsv ?_
      have b4':(h.set H.length (.dict (dput es (.int i) (.int (w' i - 1)))))[H.length+2]? =some (.list (zf R')):=by rw[getElem?_set_ne (by omega)];exact b4
      have hf':∀ k o,(k<H.length∨k=H.length+1∨H.length+2<k)→h1[k]? =some o→(h.set H.length (.dict (dput es (.int i) (.int (w' i - 1)))))[k]? =some o:=fun k o hk ho=>by rw[getElem?_set_ne (by omega)];exact hf k o hk ho
      generalize h.set H.length (AO.dict (dput es (.int i) (.int (w' i - 1))))=h2 at *;have hw:subV h2 (.ref H.length) (.int i)=some (.int (w' i - 1)):=by
       have:=b2'.sub (x:=i) (y:=w' i - 1) (by rw[wfC_get hcb];unfold updN;simp)
       exact this
      have htk2:=zv hup;refine ok_if (c:=decide (w' i - 1=0)) (h1:=h2) (by simp only[QX,hw]) ?_ ?_
      ·intro e0
       have e0:=of_decide_eq_true e0;rw[if_pos e0]at km2 hml;refine ok_expr (zM (a:=H.length+2) (h1:=h2) (h2:=h2) (v:= .int i) (by simp only[QX]) b4' (by simp only[QX]) b4' (by rw[zG];rw[length_append]at hml;omega)) (zx ⟨by simp,R'++[i],_,_,rfl,?_,b2'.other (by omega),?_,fun k o hk ho=> ?_⟩)
       ·rw[htk2];exact km2
       ·rw[zB _ _ _ (gS.mp b4').1,natsV_snoc]
       ·rw[getElem?_set_ne (by omega)];exact hf' k o hk ho
      ·intro e0
       have e0:=of_decide_eq_false e0;rw[if_neg e0]at km2;exact zx ⟨by simp,R',_,_,rfl,by rw[htk2];exact km2,b2',b4',hf'⟩
     ·rintro m h ⟨R',w',x6,rfl,km,b2,b4,hf⟩
      rw[zG,take_length]at km;have ki2:=km.done ki hRt (users_count N.cells b);refine ok_augLoc (x:= .int (t:Nat)) (v:= .int 1) (r:= .int ((t+1:Nat):Int)) (h1:=h) (h2:=h) (h3:=h) (m1:=[some (.ref (L+1)),some (.ref d),some (.ref (L+4)),some (.ref H.length),some (.ref (H.length+1)),some (.ref (H.length+2)),x6,x7,x8,x9,some (.int ((t+1:Nat):Int))]) (by simp only[QX]) (by simp only[QX]) (by simp only[QX];rfl) (by simp only[QX]) (zn ⟨by simp,k - 1,by omega,t+1,R',w',x6,by omega,rfl,?_,ki2,b2,a3.frame (fun k o hk ho=>hf k o (by omega) ho),b4⟩)
      intro i o ho;have:=(gS.mp ho).1;exact hf i o (by omega) (a1 i o ho)
    ·left
     refine⟨h,by simp only[QX,hb,zG];congr 2;simp;omega,R,w,x6,t,rfl,a1,?_,a4⟩
     have:t=R.length:=by have:=ki.le;omega
     rw[← this];exact ki
   ·rintro m h ⟨R,w,x6,t,rfl,a1,ki,a4⟩
    exact zA (v:= .ref (H.length+2)) (h1:=h) (by simp only[QX]) (Or.inl ⟨_,rfl,_,R,w,rfl,a1,a4,ki,by omega⟩)
 exact⟨a,H',R,w,e,r1,r2,r3,r4⟩
theorem comb_order_s{n L:Nat}{N:NL}{H:Hp}(q:NetA H L N)(hs:Small N)(hu:(srcs N++outs N).Nodup)(rk:Nat→Nat)(hr:∀ i∈combs N.cells,∀ b∈pre N.cells i,rk b<rk i):∃ a H' R,callF P 1000 (n+3) 12 [.ref (L+1)] H=some (.ref a,H')∧Keep H H'∧H'[a]? =some (.list (zf R))∧Order N.cells R∧H.length≤a:=by
 obtain⟨d,H1,e1,k1,hd⟩:=drivers_s (W:=1000) (n:=n+1) q hs hu;obtain⟨a,H2,R,w,e2,k2,g2,ki,hal⟩:=ordered_cells_s (n:=n) (q.keep k1) hs hd;have o:=ki.order rfl rk hr;obtain⟨T,e3,hT⟩:=state_cells_s (W:=1000) (n:=n) ((q.keep k1).keep k2) hs;refine⟨a,H2++[.list T],R,zz (fn:=f_comb_order) rfl rfl ⟨[some (.ref (L+1)),some (.ref a)],?_⟩,(k1.trans k2).snoc _,Keep.push _ _ _ _ g2,o,Nat.le_trans k1.len hal⟩
 unfold f_comb_order;simp only[Nat.add_assoc,Nat.reduceAdd]at e1 e2 e3;generalize callF P 1000 (n+2)=cl at *;have q2:=((q.keep k1).keep k2).keep (Keep.push H2 [.list T]);have g3:=Keep.push H2 [.list T] _ _ g2;have b1:=bi_len g2;have b2:biV (H2++[.list T]) .len [.ref H2.length]=some (.int T.length,H2++[.list T]):=bi_len ze;have b3:=bi_len q2.cel;have at2:=q2.attr;have at1:=q.attr;have hol:=o.len;simp only[SA,Nat.reduceSub,SN];refine zC (m1:=[some (.ref (L+1)),some (.ref a)]) (h1:=H2) (zN (v:= .ref a) (h1:=H2) (by simp only[QX,e1,e2]) (by simp only[QX])) ?_
 refine zC (m1:=[some (.ref (L+1)),some (.ref a)]) (h1:=H2++[.list T]) ?_ (zD (exS_ret (v:= .ref a) (by simp only[QX])))
 rw[exS];have ht:tstE cl (.cmp .lt (.bin .add (.bi .len [(.loc 1)]) (.bi .len [(.call 9 [(.loc 0)])])) (.bi .len [(.attr (.loc 0) nCells)])) [some (.ref (L+1)),some (.ref a)] H2=some (false,H2++[.list T]):=by
  simp only[QX,b1,e3,b2,b3,at2,zG,length_map];congr 2
  simp;omega
 rw[ht];rfl
structure FS where
 cells:List Cell
 rep:Int→Option Int
 inv:Int→Option Int
def foldF(s:FS)(i:Nat):F3:=zK (cA s.cells i).kind (cA s.cells i).param ((cA s.cells i).ins.map (fin s.rep)) s.inv
def foldStep(s:FS)(i:Nat):FS:=
 if (foldF s i).kind=kBuf then ⟨s.cells,upd s.rep (cA s.cells i).out ((foldF s i).ins.getD 0 0),s.inv⟩
 else ⟨s.cells.set i ⟨(foldF s i).kind,(cA s.cells i).out,(foldF s i).ins,(foldF s i).param⟩,s.rep,
  if (foldF s i).kind=kNot then upd (upd s.inv (cA s.cells i).out ((foldF s i).ins.getD 0 0)) ((foldF s i).ins.getD 0 0) (cA s.cells i).out else s.inv⟩
def zl(l:List Cell)(R:List Nat):FS:=R.foldl foldStep ⟨l,fun _=>none,fun _=>none⟩
theorem foldSt_snoc(l:List Cell)(R:List Nat)(i:Nat):zl l (R++[i])=foldStep (zl l R) i:=by unfold zl;rw[foldl_append];rfl
theorem foldStep_len(s:FS)(i:Nat):(foldStep s i).cells.length=s.cells.length:=by unfold foldStep;split<;>simp
theorem foldSt_len(l:List Cell)(R:List Nat):(zl l R).cells.length=l.length:=by
 unfold zl;have:∀ s:FS,(R.foldl foldStep s).cells.length=s.cells.length:=by
  induction R with
  | nil=>intro s;rfl
  | cons i R ih=>intro s;rw[foldl_cons,ih,foldStep_len]
 exact this _
structure FoldOk(N:NL)(R:List Nat):Prop where
 ch:∀ p,p≤R.length→Chain (zl N.cells (R.take p)).rep
 ok:∀ p i,R[p]? =some i→CombOk (cA (zl N.cells (R.take p)).cells i).kind (cA (zl N.cells (R.take p)).cells i).ins.length (cA (zl N.cells (R.take p)).cells i).param
 nn:∀ p i,R[p]? =some i→∀ x∈(cA (zl N.cells (R.take p)).cells i).ins,0≤fin (zl N.cells (R.take p)).rep x
 li:∀ c∈(zl N.cells R).cells,c.ins.length≤100
theorem combOk_len{k:Nm}{l:Nat}{p:AV}(h:CombOk k l p):1≤l∧l≤3:=by cases h<;>omega
theorem form2_ne{inv:Int→Option Int}{f:F3}(h:f.ins≠[]):(form2 inv f).ins≠[]:=by
 unfold form2;(repeat' split)<;>first | exact h | exact cons_ne_nil _ _
theorem fold_constants_s{n L:Nat}{N:NL}{H:Hp}(q:NetA H L N)(hs:Small N)(hu:(srcs N++outs N).Nodup)(rk:Nat→Nat)(hr:∀ i∈combs N.cells,∀ b∈pre N.cells i,rk b<rk i)(hf:∀ R,Order N.cells R→FoldOk N R):
  ∃ R L' H',callF P 1000 (n+10) 36 [.ref (L+1)] H=some (.ref (L'+1),H')∧Order N.cells R∧NetA H' L' (rebuild N (zl N.cells R).cells (zl N.cells R).rep)∧Keep H H':=by
 obtain⟨v,H',e,R,L',rfl,r1,r2,r3⟩:∃ v H',callF P 1000 (n+10) 36 [.ref (L+1)] H=some (v,H')∧∃ R L',v= .ref (L'+1)∧Order N.cells R∧NetA H' L' (rebuild N (zl N.cells R).cells (zl N.cells R).rep)∧Keep H H':=by
  refine zF (fn:=f_fold_constants) rfl rfl ?_
  unfold f_fold_constants;have hcomb:=fun (h:Hp) (q:NetA h L N)=>comb_order_s (n:=n+6) q hs hu rk hr
  have hcomp:=fun m c h it i l x gd r M rep=>fin_comp (n:=n+8) (r:=r) (M:=M) (rep:=rep) (m:=m) (c:=c) (h:=h) (it:=it) (i:=i) (l:=l) (x:=x) (gd:=gd)
  have hsf:=fun k out oins ins p h inv r M=>simple_form_s (W:=1000) (n:=n) (r:=r) (N:=M) (k:=k) (out:=out) (oins:=oins) (ins:=ins) (p:=p) (inv:=inv) (H:=h)
  have hreb:=fun rc r M cells rep h (q:NetA h L N)=>rebuilt_cells_s (n:=n+6) (rc:=rc) (r:=r) (M:=M) (cells:=cells) (rep:=rep) q hs
  simp only[Nat.add_assoc,Nat.reduceAdd]at hcomb hcomp hsf hreb;generalize callF P 1000 (n+9)=cl at *;simp only[SA,Nat.reduceSub,SN,SK];have at0:=q.attr;have hn20:=hs.cc;refine zb (v:= .ref H.length) (h1:=H++[.list (N.cells.map Cell.v)]) (m1:=[some (.ref (L+1)),some (.ref H.length),none,none,none,none,none,none,none,none]) (by simp only[QX,at0,bi_list q.cel]) (by simp only[QX]) ?_
  refine zb (v:= .ref (H.length+1)) (h1:=(H++[.list (N.cells.map Cell.v)])++[.dict []]) (m1:=[some (.ref (L+1)),some (.ref H.length),some (.ref (H.length+1)),none,none,none,none,none,none,none]) (by simp only[QX,pairUp,length_append,length_singleton];rfl) (by simp only[QX]) ?_
  refine zb (v:= .ref (H.length+2)) (h1:=((H++[.list (N.cells.map Cell.v)])++[.dict []])++[.dict []]) (m1:=[some (.ref (L+1)),some (.ref H.length),some (.ref (H.length+1)),some (.ref (H.length+2)),none,none,none,none,none,none]) (by simp only[QX,pairUp,length_append,length_singleton];rfl) (by simp only[QX]) ?_
  rw[append_assoc,append_assoc];have k0:Keep H (H++([AO.list (N.cells.map Cell.v)]++([AO.dict []]++[AO.dict []]))):=Keep.push _ _;have w0:(H++([AO.list (N.cells.map Cell.v)]++([AO.dict []]++[AO.dict []])))[H.length]? =some (.list (N.cells.map Cell.v)):=ze;have u0:(H++([AO.list (N.cells.map Cell.v)]++([AO.dict []]++[AO.dict []])))[H.length+1]? =some (.dict []):=get_off;have l0:(H++([AO.list (N.cells.map Cell.v)]++([AO.dict []]++[AO.dict []])))[H.length+2]? =some (.dict []):=get_off;have g0:(H++([AO.list (N.cells.map Cell.v)]++([AO.dict []]++[AO.dict []]))).length=H.length+3:=by simp
  generalize H++([AO.list (N.cells.map Cell.v)]++([AO.dict []]++[AO.dict []]))=h0 at *;have q0:=q.keep k0;obtain⟨a,h1,R,c1,c2,c3,c4,c5⟩:=hcomb h0 q0;have fo:=hf R c4;have hRl:R.length≤20:=by
   have h1:=c4.len;have h2:=length_filter_le (fun i=> !isSt (cA N.cells i).kind) (List.range N.cells.length)
   rw[length_range]at h2;unfold combs at h1;omega
  refine ok_for (x:= .ref a) (vs:=zf R) (gd:=some (a,.list (zf R))) (h1:=h1) (fun p m h=>(∃ x4 x5 x6 x7 x8 x9,m=[some (.ref (L+1)),some (.ref H.length),some (.ref (H.length+1)),some (.ref (H.length+2)),x4,x5,x6,x7,x8,x9])∧Keep H h∧h[H.length]? =some (.list ((zl N.cells (R.take p)).cells.map Cell.v))∧DictI h (H.length+1) (zl N.cells (R.take p)).rep (2 * p)∧DictI h (H.length+2) (zl N.cells (R.take p)).inv (2 * p)∧h[a]? =some (.list (zf R)))
   (zi (vs:=[.ref (L+1)]) (h1:=h0) (by simp only[QX]) c1) (zg _ _ _ c3) ⟨⟨none,none,none,none,none,none,rfl⟩,k0.trans c2,c2 _ _ w0,⟨[],c2 _ _ u0,by simp,fun x=>rfl⟩,⟨[],c2 _ _ l0,by simp,fun x=>rfl⟩,c3⟩ (fun p m h _ s=>by unfold guardOk;simp[s.2.2.2.2.2]) ?_ ?_
  ·rintro p v m h hv ⟨⟨x4,x5,x6,x7,x8,x9,rfl⟩,a1,a2,a3,a4,a5⟩
   have hpl:=(gS.mp hv).1;rw[zG]at hpl;have hRp:R[p]? =some R[p]:=getElem?_eq_getElem hpl;rw[show zf R=R.map fun (i:Nat)=>AV.int i from rfl,getElem?_map,hRp]at hv
   have hch:=fo.ch p (by omega)
   have hok:=fo.ok p _ hRp;have hnn:=fo.nn p _ hRp;have hst:zl N.cells (R.take (p+1))=foldStep (zl N.cells (R.take p)) R[p]:=by rw[zv hRp,foldSt_snoc]
   have hil:R[p]<(zl N.cells (R.take p)).cells.length:=by
    rw[foldSt_len];have:=(c4.mem R[p]).mp (getElem_mem hpl);unfold combs at this;rw[mem_filter,mem_range]at this;exact this.1
   generalize R[p]=i at *;simp only[Option.map_some,Option.some.injEq]at hv;subst hv;rw[hst];have hFd:foldF (zl N.cells (R.take p)) i=zK (cA (zl N.cells (R.take p)).cells i).kind (cA (zl N.cells (R.take p)).cells i).param ((cA (zl N.cells (R.take p)).cells i).ins.map (fin (zl N.cells (R.take p)).rep)) (zl N.cells (R.take p)).inv:=rfl;have hSd:foldStep (zl N.cells (R.take p)) i=_:=rfl;generalize zl N.cells (R.take p)=s at *;have hgc:(s.cells.map Cell.v)[i]? =some (cA s.cells i).v:=by rw[getElem?_map,get_cA hil];rfl
   have hlen3:=combOk_len hok;generalize hcc:cA s.cells i=c at *;refine⟨[some (.ref (L+1)),some (.ref H.length),some (.ref (H.length+1)),some (.ref (H.length+2)),some (.int i),x5,x6,x7,x8,x9],by simp only[QX],?_⟩
   refine zb (v:=c.v) (h1:=h) (m1:=[some (.ref (L+1)),some (.ref H.length),some (.ref (H.length+1)),some (.ref (H.length+2)),some (.int i),some c.v,x6,x7,x8,x9]) (by simp only[QX,sub_list a2,hgc]) (by simp only[QX]) ?_
   refine zb (v:= .int c.out) (h1:=h) (m1:=[some (.ref (L+1)),some (.ref H.length),some (.ref (H.length+1)),some (.ref (H.length+2)),some (.int i),some c.v,some (.int c.out),x7,x8,x9]) (by simp only[QX];unfold Cell.v;simp only[QX]) (by simp only[QX]) ?_
   have hcp:=hcomp [some (.ref (L+1)),some (.ref H.length),some (.ref (H.length+1)),some (.ref (H.length+2)),some (.int i),some c.v,some (.int c.out),x7,x8,x9] [] h (.sub (.loc 5) (.const (.int 2))) 2 c.ins (.tup (za c.ins)) none (H.length+1) (2 * p) s.rep a3 hch (by simp only[QX];unfold Cell.v;simp only[QX]) rfl rfl (by omega) rfl
   have k1:=Keep.push h [.list (za (c.ins.map (fin s.rep)))];have hbt:biV (h++[.list (za (c.ins.map (fin s.rep)))]) .tuple [.ref h.length]=some (.tup (za (c.ins.map (fin s.rep))),h++[.list (za (c.ins.map (fin s.rep)))]):=bi_tuple (zE _ _);refine zb (v:= .tup (za (c.ins.map (fin s.rep)))) (h1:=h++[.list (za (c.ins.map (fin s.rep)))]) (m1:=[some (.ref (L+1)),some (.ref H.length),some (.ref (H.length+1)),some (.ref (H.length+2)),some (.int i),some c.v,some (.int c.out),some (.tup (za (c.ins.map (fin s.rep)))),x8,x9]) (by simp only[QX,hcp,hbt]) (by simp only[QX]) ?_
   have a1:=a1.trans k1;have a2:=k1 _ _ a2;have a3:=a3.keep k1;have a4:=a4.keep k1;have a5:=k1 _ _ a5;clear hcp k1 hbt;generalize h++[AO.list (za (c.ins.map (fin s.rep)))]=h1 at *;obtain⟨T,hT⟩:=hsf c.kind c.out c.ins (c.ins.map (fin s.rep)) c.param h1 s.inv (H.length+2) (2 * p) (by rw[length_map];exact hok) (fun x hx=>by obtain⟨y,hy,rfl⟩:=mem_map.mp hx;exact hnn y hy) a4
   rw[← hFd]at hT;have k2:=Keep.push h1 T;have a1:=a1.trans k2;have a2:=k2 _ _ a2;have a3:=a3.keep k2;have a4:=a4.keep k2;have a5:=k2 _ _ a5;clear k2;generalize h1++T=h2 at *;have hFne:(foldF s i).ins≠[]:=by rw[hFd];exact form2_ne (form1_ne (fun e=>by rw[map_eq_nil_iff]at e;rw[e]at hlen3;simp at hlen3))
   unfold foldStep at hSd ⊢;clear hSd;rw[hcc];generalize foldF s i=f at *;clear hFd;obtain⟨fk,fi,fp⟩:=f;obtain⟨b,fl,rfl⟩:∃ b fl,fi=b::fl:=by
    cases fi with
    | nil=>exact absurd rfl hFne
    | cons b fl=>exact ⟨b,fl,rfl⟩
   refine zb (v:=F3.v ⟨fk,b::fl,fp⟩) (h1:=h2) (m1:=[some (.ref (L+1)),some (.ref H.length),some (.ref (H.length+1)),some (.ref (H.length+2)),some (.int i),some c.v,some (.int c.out),some (.tup (za (b::fl))),some (.str fk),some fp]) (zi (vs:=[c.v,.tup (za (c.ins.map (fin s.rep))),.ref (H.length+2)]) (h1:=h1) (by simp only[QX]) hT) (by unfold F3.v;simp only[QX]) ?_
   have hgd:(b::fl).getD 0 0=b:=rfl;simp only[hgd];refine ok_if (c:=decide (fk=kBuf)) (h1:=h2) (by simp only[QX]) ?_ ?_
   ·intro e
    have e:=of_decide_eq_true e;rw[if_pos e];obtain⟨o,o1,o2⟩:=a3.put c.out b (by omega)
    refine zw (v:= .int b) (x:= .ref (H.length+1)) (y:= .int c.out) (h1:=h2) (h2:=h2) (h3:=h2) (by simp only[QX,za,map_cons]) (by simp only[QX]) (by simp only[QX]) o1 (zx ⟨by simp,⟨_,_,_,_,_,_,rfl⟩,a1.set (by omega),?_,o2.mono (by omega),(a4.other (by omega)).mono (by omega),?_⟩)
    ·rw[getElem?_set_ne (by omega)];exact a2
    ·rw[getElem?_set_ne (by omega)];exact a5
   ·intro e
    have e:=of_decide_eq_false e;rw[if_neg e];have hsl:setSubV h2 (.ref H.length) (.int i) (Cell.v ⟨fk,c.out,b::fl,fp⟩)=some (h2.set H.length (.list ((s.cells.set i ⟨fk,c.out,b::fl,fp⟩).map Cell.v))):=by
     simp only[setSubV,a2];rw[if_pos ⟨by omega,by simpa using hil⟩,Int.toNat_natCast,← map_set]
    refine zw (v:=Cell.v ⟨fk,c.out,b::fl,fp⟩) (x:= .ref H.length) (y:= .int i) (h1:=h2) (h2:=h2) (h3:=h2) (by simp only[QX]<;>rfl) (by simp only[QX]) (by simp only[QX]) hsl ?_
    have a1:=a1.set (o:= .list ((s.cells.set i ⟨fk,c.out,b::fl,fp⟩).map Cell.v)) (Nat.le_refl _);have a2':(h2.set H.length (.list ((s.cells.set i ⟨fk,c.out,b::fl,fp⟩).map Cell.v)))[H.length]? =some (.list ((s.cells.set i ⟨fk,c.out,b::fl,fp⟩).map Cell.v)):=zB _ _ _ (gS.mp a2).1;have a3:=a3.other (r2:=H.length) (o:= .list ((s.cells.set i ⟨fk,c.out,b::fl,fp⟩).map Cell.v)) (by omega)
    have a4:=a4.other (r2:=H.length) (o:= .list ((s.cells.set i ⟨fk,c.out,b::fl,fp⟩).map Cell.v)) (by omega)
    have a5:(h2.set H.length (.list ((s.cells.set i ⟨fk,c.out,b::fl,fp⟩).map Cell.v)))[a]? =some (.list (zf R)):=by rw[getElem?_set_ne (by omega)];exact a5
    generalize h2.set H.length (AO.list ((s.cells.set i ⟨fk,c.out,b::fl,fp⟩).map Cell.v))=h3 at *;refine ok_if (c:=decide (fk=kNot)) (h1:=h3) (by simp only[QX]) ?_ ?_
    ·intro e2
     have e2:=of_decide_eq_true e2;rw[if_pos e2];obtain⟨o,o1,o2⟩:=a4.put c.out b (by omega)
     obtain⟨o',p1,p2⟩:=o2.put b c.out (by omega)
     refine zw (v:= .int b) (x:= .ref (H.length+2)) (y:= .int c.out) (h1:=h3) (h2:=h3) (h3:=h3) (by simp only[QX,za,map_cons]) (by simp only[QX]) (by simp only[QX]) o1 ?_
     refine zw (v:= .int c.out) (x:= .ref (H.length+2)) (y:= .int b) (h1:=h3.set (H.length+2) o) (h2:=h3.set (H.length+2) o) (h3:=h3.set (H.length+2) o) (by simp only[QX]) (by simp only[QX]) (by simp only[QX,za,map_cons]) p1 (ok_end (zx ⟨by simp,⟨_,_,_,_,_,_,rfl⟩,(a1.set (by omega)).set (by omega),?_,((a3.other (by omega)).other (by omega)).mono (by omega),p2.mono (by omega),?_⟩))
     ·rw[getElem?_set_ne (by omega),getElem?_set_ne (by omega)];exact a2'
     ·rw[getElem?_set_ne (by omega),getElem?_set_ne (by omega)];exact a5
    ·intro e2
     have e2:=of_decide_eq_false e2;rw[if_neg e2];exact ok_end (zx ⟨by simp,⟨_,_,_,_,_,_,rfl⟩,a1,a2',a3.mono (by omega),a4.mono (by omega),a5⟩)
  ·rintro m h ⟨⟨x4,x5,x6,x7,x8,x9,rfl⟩,a1,a2,a3,a4,a5⟩
   rw[zG,take_length]at a2 a3 a4;have hch:=fo.ch R.length (Nat.le_refl _);rw[take_length]at hch;obtain⟨L',h',d1,d2,d3⟩:=hreb H.length (H.length+1) (2 * R.length) (zl N.cells R).cells (zl N.cells R).rep h (q.keep a1) a2 (by rw[foldSt_len];omega) fo.li a3 hch
   exact zA (v:= .ref (L'+1)) (h1:=h') (zi (vs:=[.ref (L+1),.ref H.length,.ref (H.length+1)]) (h1:=h) (by simp only[QX]) d1) (Or.inl ⟨_,rfl,R,L',rfl,c4,d2,a1.trans d3⟩)
 exact⟨R,L',H',e,r1,r2,r3⟩
structure BS where
 rep:Int→Option Int
 inv:Int→Option Int
def dropStep(l:List Cell)(s:BS)(i:Nat):BS:=
 if (cA l i).kind=kBuf then ⟨upd s.rep (cA l i).out (fin s.rep ((cA l i).ins.getD 0 0)),s.inv⟩
 else if (cA l i).kind=kNot then (match s.inv (fin s.rep ((cA l i).ins.getD 0 0)) with
  | some y=>⟨upd s.rep (cA l i).out y,s.inv⟩
  | none=>⟨s.rep,upd s.inv (cA l i).out (fin s.rep ((cA l i).ins.getD 0 0))⟩) else s
def dropSt(l:List Cell)(R:List Nat):BS:=R.foldl (dropStep l) ⟨fun _=>none,fun _=>none⟩
theorem dropSt_snoc(l:List Cell)(R:List Nat)(i:Nat):dropSt l (R++[i])=dropStep l (dropSt l R) i:=by unfold dropSt;rw[foldl_append];rfl
structure DropOk(N:NL)(R:List Nat):Prop where
 ch:∀ p,p≤R.length→Chain (dropSt N.cells (R.take p)).rep
 ok:∀ i∈R,(cA N.cells i).kind=kBuf∨(cA N.cells i).kind=kNot→(cA N.cells i).ins≠[]
theorem order_len{l:List Cell}{R:List Nat}(o:Order l R):R.length≤l.length:=by
 have h1:=o.len;have h2:=length_filter_le (fun i=> !isSt (cA l i).kind) (List.range l.length)
 rw[length_range]at h2;unfold combs at h1;omega
theorem order_lt{l:List Cell}{R:List Nat}(o:Order l R){i:Nat}(h:i∈R):i<l.length:=by
 have:=(o.mem i).mp h;unfold combs at this;rw[mem_filter,mem_range]at this;exact this.1
theorem drop_buffers_s{n L:Nat}{N:NL}{H:Hp}(q:NetA H L N)(hs:Small N)(hu:(srcs N++outs N).Nodup)(rk:Nat→Nat)(hr:∀ i∈combs N.cells,∀ b∈pre N.cells i,rk b<rk i)(hf:∀ R,Order N.cells R→DropOk N R):
  ∃ R L' H',callF P 1000 (n+5) 37 [.ref (L+1)] H=some (.ref (L'+1),H')∧Order N.cells R∧NetA H' L' (rebuild N N.cells (dropSt N.cells R).rep)∧Keep H H':=by
 obtain⟨v,H',e,R,L',rfl,r1,r2,r3⟩:∃ v H',callF P 1000 (n+5) 37 [.ref (L+1)] H=some (v,H')∧∃ R L',v= .ref (L'+1)∧Order N.cells R∧NetA H' L' (rebuild N N.cells (dropSt N.cells R).rep)∧Keep H H':=by
  refine zF (fn:=f_drop_buffers) rfl rfl ?_
  unfold f_drop_buffers;have hcomb:=fun (h:Hp) (q:NetA h L N)=>comb_order_s (n:=n+1) q hs hu rk hr
  have hfin:=fun r M rep x h=>final_net_s (n:=n+3) (r:=r) (N:=M) (rep:=rep) (x:=x) (H:=h)
  have hreb:=fun r M rep h (q:NetA h L N)=>rebuilt_s (n:=n) (r:=r) (M:=M) (rep:=rep) q hs
  simp only[Nat.add_assoc,Nat.reduceAdd]at hcomb hfin hreb;generalize callF P 1000 (n+4)=cl at *;simp only[SA,Nat.reduceSub,SN,SK];have hn20:=hs.cc;refine zb (v:= .ref H.length) (h1:=H++[.dict []]) (m1:=[some (.ref (L+1)),some (.ref H.length),none,none,none,none,none,none,none]) (by simp only[QX,pairUp];rfl) (by simp only[QX]) ?_
  refine zb (v:= .ref (H.length+1)) (h1:=(H++[.dict []])++[.dict []]) (m1:=[some (.ref (L+1)),some (.ref H.length),some (.ref (H.length+1)),none,none,none,none,none,none]) (by simp only[QX,pairUp,length_append,length_singleton];rfl) (by simp only[QX]) ?_
  rw[append_assoc];have k0:Keep H (H++([AO.dict []]++[AO.dict []])):=Keep.push _ _;have u0:(H++([AO.dict []]++[AO.dict []]))[H.length]? =some (.dict []):=ze;have l0:(H++([AO.dict []]++[AO.dict []]))[H.length+1]? =some (.dict []):=get_off;have g0:(H++([AO.dict []]++[AO.dict []])).length=H.length+2:=by simp
  generalize H++([AO.dict []]++[AO.dict []])=h0 at *;have q0:=q.keep k0;obtain⟨a,h1,R,c1,c2,c3,c4,c5⟩:=hcomb h0 q0;have fo:=hf R c4;have hRl:=order_len c4;refine ok_for (x:= .ref a) (vs:=zf R) (gd:=some (a,.list (zf R))) (h1:=h1) (fun p m h=>(∃ x3 x4 x5 x6 x7 x8,m=[some (.ref (L+1)),some (.ref H.length),some (.ref (H.length+1)),x3,x4,x5,x6,x7,x8])∧Keep H h∧DictI h H.length (dropSt N.cells (R.take p)).rep p∧DictI h (H.length+1) (dropSt N.cells (R.take p)).inv p∧h[a]? =some (.list (zf R)))
   (zi (vs:=[.ref (L+1)]) (h1:=h0) (by simp only[QX]) c1) (zg _ _ _ c3) ⟨⟨none,none,none,none,none,none,rfl⟩,k0.trans c2,⟨[],c2 _ _ u0,by simp,fun x=>rfl⟩,⟨[],c2 _ _ l0,by simp,fun x=>rfl⟩,c3⟩ (fun p m h _ s=>by unfold guardOk;simp[s.2.2.2.2]) ?_ ?_
  ·rintro p v m h hv ⟨⟨x3,x4,x5,x6,x7,x8,rfl⟩,a1,a3,a4,a5⟩
   have hpl:=(gS.mp hv).1;rw[zG]at hpl;have hRp:R[p]? =some R[p]:=getElem?_eq_getElem hpl;rw[show zf R=R.map fun (i:Nat)=>AV.int i from rfl,getElem?_map,hRp]at hv
   have hch:=fo.ch p (by omega)
   have hok:=fo.ok _ (getElem_mem hpl);have hst:dropSt N.cells (R.take (p+1))=dropStep N.cells (dropSt N.cells (R.take p)) R[p]:=by rw[zv hRp,dropSt_snoc]
   have hil:=order_lt c4 (getElem_mem hpl);generalize R[p]=i at *;simp only[Option.map_some,Option.some.injEq]at hv;subst hv;rw[hst];generalize dropSt N.cells (R.take p)=s at *;have q1:=q.keep a1;have at1:=q1.attr;have hcs:=cell_sub q1 hil;unfold dropStep;generalize cA N.cells i=c at *;refine⟨[some (.ref (L+1)),some (.ref H.length),some (.ref (H.length+1)),some (.int i),x4,x5,x6,x7,x8],by simp only[QX],?_⟩
   refine zb (v:=c.v) (h1:=h) (m1:=[some (.ref (L+1)),some (.ref H.length),some (.ref (H.length+1)),some (.int i),some (.str c.kind),some (.int c.out),some (.tup (za c.ins)),some c.param,x8]) (by simp only[QX,at1,hcs]) (by unfold Cell.v;simp only[QX]) ?_
   refine ok_if (c:=decide (c.kind=kBuf)) (h1:=h) (by simp only[QX]) ?_ ?_
   ·intro e
    have e:=of_decide_eq_true e;obtain⟨b,bl,hb⟩:∃ b bl,c.ins=b::bl:=by
     cases hc:c.ins with
     | nil=>exact absurd hc (hok (Or.inl e))
     | cons b bl=>exact ⟨b,bl,rfl⟩
    rw[if_pos e,hb];have hgd:(b::bl).getD 0 0=b:=rfl;simp only[hgd];have hfn:=hfin H.length p s.rep b h a3 hch;obtain⟨o,o1,o2⟩:=a3.put c.out (fin s.rep b) (by omega)
    refine zw (v:= .int (fin s.rep b)) (x:= .ref H.length) (y:= .int c.out) (h1:=h) (h2:=h) (h3:=h) (by simp only[QX,za,map_cons,hfn]) (by simp only[QX]) (by simp only[QX]) o1 (zx ⟨by simp,⟨_,_,_,_,_,_,rfl⟩,a1.set (by omega),o2,(a4.other (by omega)).mono (by omega),?_⟩)
    rw[getElem?_set_ne (by omega)];exact a5
   ·intro e
    have e:=of_decide_eq_false e;rw[if_neg e];refine ok_if (c:=decide (c.kind=kNot)) (h1:=h) (by simp only[QX]) ?_ ?_
    ·intro e2
     have e2:=of_decide_eq_true e2;rw[if_pos e2];obtain⟨b,bl,hb⟩:∃ b bl,c.ins=b::bl:=by
      cases hc:c.ins with
      | nil=>exact absurd hc (hok (Or.inr e2))
      | cons b bl=>exact ⟨b,bl,rfl⟩
     rw[hb];have hgd:(b::bl).getD 0 0=b:=rfl;simp only[hgd];have hfn:=hfin H.length p s.rep b h a3 hch;refine zb (v:= .int (fin s.rep b)) (h1:=h) (m1:=[some (.ref (L+1)),some (.ref H.length),some (.ref (H.length+1)),some (.int i),some (.str c.kind),some (.int c.out),some (.tup (za (b::bl))),some c.param,some (.int (fin s.rep b))]) (by simp only[QX,za,map_cons,hfn]) (by simp only[QX]) ?_
     generalize fin s.rep b=y at *;refine ok_if (c:=(s.inv y).isSome) (h1:=h) (by simp only[QX,a4.has]) ?_ ?_
     ·intro e3
      obtain⟨z,hz⟩:=Option.isSome_iff_exists.mp e3;simp only[hz];obtain⟨o,o1,o2⟩:=a3.put c.out z (by omega)
      refine zw (v:= .int z) (x:= .ref H.length) (y:= .int c.out) (h1:=h) (h2:=h) (h3:=h) (by simp only[QX,a4.sub hz]) (by simp only[QX]) (by simp only[QX]) o1 (ok_end (ok_end (zx ⟨by simp,⟨_,_,_,_,_,_,rfl⟩,a1.set (by omega),o2,(a4.other (by omega)).mono (by omega),?_⟩)))
      rw[getElem?_set_ne (by omega)];exact a5
     ·intro e3
      have hz:s.inv y=none:=by simpa using e3
      simp only[hz];obtain⟨o,o1,o2⟩:=a4.put c.out y (by omega)
      refine zw (v:= .int y) (x:= .ref (H.length+1)) (y:= .int c.out) (h1:=h) (h2:=h) (h3:=h) (by simp only[QX]) (by simp only[QX]) (by simp only[QX]) o1 (ok_end (ok_end (zx ⟨by simp,⟨_,_,_,_,_,_,rfl⟩,a1.set (by omega),(a3.other (by omega)).mono (by omega),o2,?_⟩)))
      rw[getElem?_set_ne (by omega)];exact a5
    ·intro e2
     have e2:=of_decide_eq_false e2;rw[if_neg e2];exact ok_end (zx ⟨by simp,⟨_,_,_,_,_,_,rfl⟩,a1,a3.mono (by omega),a4.mono (by omega),a5⟩)
  ·rintro m h ⟨⟨x3,x4,x5,x6,x7,x8,rfl⟩,a1,a3,a4,a5⟩
   rw[zG,take_length]at a3 a4;have hch:=fo.ch R.length (Nat.le_refl _);rw[take_length]at hch;obtain⟨L',h',d1,d2,d3⟩:=hreb H.length R.length (dropSt N.cells R).rep h (q.keep a1) a3 hch;exact zA (v:= .ref (L'+1)) (h1:=h') (zi (vs:=[.ref (L+1),.ref H.length]) (h1:=h) (by simp only[QX]) d1) (Or.inl ⟨_,rfl,R,L',rfl,c4,d2,a1.trans d3⟩)
 exact⟨R,L',H',e,r1,r2,r3⟩
def Closed(N:NL)(C:Nat→Prop):Prop:=(∀ x∈zd N.outputs,∀ b,drvs N.cells x=some b→C b)∧(∀ i,C i→i<N.cells.length→∀ x∈(cA N.cells i).ins,∀ b,drvs N.cells x=some b→C b)
structure UsedOk(N:NL)(S:List Nat):Prop where
 nd:S.Nodup
 lt:∀ i∈S,i<N.cells.length
 cl:Closed N (· ∈S)
 mn:∀ C,Closed N C→∀ i∈S,C i
structure UInv(N:NL)(S:List Nat)(P:List Int):Prop where
 nd:S.Nodup
 lt:∀ i∈S,i<N.cells.length
 c1:∀ x∈zd N.outputs,x∈P∨∀ b,drvs N.cells x=some b→b∈S
 c2:∀ i∈S,∀ x∈(cA N.cells i).ins,x∈P∨∀ b,drvs N.cells x=some b→b∈S
 mn:∀ C,Closed N C→∀ i∈S,C i
 mp:∀ C,Closed N C→∀ x∈P,∀ b,drvs N.cells x=some b→C b
theorem UInv.len{N:NL}{S:List Nat}{P:List Int}(u:UInv N S P):S.length≤N.cells.length:=by
 have:=List.Nodup.length_le_of_subset u.nd (l₂:=List.range N.cells.length) (fun i hi=>by rw[mem_range];exact u.lt i hi)
 rwa [length_range]at this
theorem UInv.init(N:NL):UInv N [] (zd N.outputs):=⟨nodup_nil,fun i hi=>by simp at hi,fun x hx=>Or.inl hx,fun i hi=>by simp at hi,fun C _ i hi=>by simp at hi,fun C hC x hx b hb=>hC.1 x hx b hb⟩
theorem UInv.done{N:NL}{S:List Nat}(u:UInv N S []):UsedOk N S:=by
 refine⟨u.nd,u.lt,⟨fun x hx b hb=> ?_,fun i hi _ x hx b hb=> ?_⟩,u.mn⟩
 ·rcases u.c1 x hx with h | h
  ·simp at h
  ·exact h b hb
 ·rcases u.c2 i hi x hx with h | h
  ·simp at h
  ·exact h b hb
theorem UInv.pop{N:NL}{S:List Nat}{P:List Int}{x:Int}(u:UInv N S (P++[x]))(h:∀ b,drvs N.cells x=some b→b∈S):UInv N S P:=by
 refine⟨u.nd,u.lt,fun y hy=> ?_,fun i hi y hy=> ?_,u.mn,fun C hC y hy=>u.mp C hC y (mem_append_left _ hy)⟩
 ·rcases u.c1 y hy with a | a
  ·rw[mem_append,mem_singleton]at a
   rcases a with a | rfl
   ·exact Or.inl a
   ·exact Or.inr h
  ·exact Or.inr a
 ·rcases u.c2 i hi y hy with a | a
  ·rw[mem_append,mem_singleton]at a
   rcases a with a | rfl
   ·exact Or.inl a
   ·exact Or.inr h
  ·exact Or.inr a
theorem UInv.add{N:NL}{S:List Nat}{P:List Int}{x:Int}{b:Nat}(u:UInv N S (P++[x]))(h:drvs N.cells x=some b)(hl:b<N.cells.length)(hb:b∉S):UInv N (S++[b]) (P++(cA N.cells b).ins):=by
 have key:∀ y,(y∈P++[x]∨∀ c,drvs N.cells y=some c→c∈S)→(y∈P++(cA N.cells b).ins∨∀ c,drvs N.cells y=some c→c∈S++[b]):=by
  intro y a;rcases a with a | a
  ·rw[mem_append,mem_singleton]at a
   rcases a with a | rfl
   ·exact Or.inl (mem_append_left _ a)
   ·right
    intro c hc;rw[h]at hc;cases hc;simp
  ·right
   intro c hc;exact mem_append_left _ (a c hc)
 refine⟨?_,fun i hi=> ?_,fun y hy=>key y (u.c1 y hy),fun i hi y hy=> ?_,fun C hC i hi=> ?_,fun C hC y hy c hc=> ?_⟩
 ·rw[nodup_append]
  refine⟨u.nd,by simp,fun a ha c hc e=> ?_⟩
  rw[mem_singleton]at hc;subst hc e;exact hb ha
 ·rw[mem_append,mem_singleton]at hi
  rcases hi with hi | rfl
  ·exact u.lt i hi
  ·exact hl
 ·rw[mem_append,mem_singleton]at hi
  rcases hi with hi | rfl
  ·exact key y (u.c2 i hi y hy)
  ·exact Or.inl (mem_append_right _ hy)
 ·have hCb:=u.mp C hC x (by simp) b h
  rw[mem_append,mem_singleton]at hi;rcases hi with hi | rfl
  ·exact u.mn C hC i hi
  ·exact hCb
 ·have hCb:=u.mp C hC x (by simp) b h
  rw[mem_append]at hy;rcases hy with hy | hy
  ·exact u.mp C hC y (mem_append_left _ hy) c hc
  ·exact hC.2 b hCb hl y hy c hc
def idxI(S:List Nat):List Int:=S.map fun (i:Nat)=>(i:Int)
theorem ints_mem{S:List Nat}{b:Nat}:((b:Int)∈idxI S)↔b∈S:=by
 unfold idxI;rw[mem_map];constructor
 ·rintro⟨x,hx,e⟩
  have:x=b:=by omega
  rw[← this];exact hx
 ·intro h;exact⟨b,h,rfl⟩
theorem netsOf_len{l:List Port}(h:∀ p∈l,p.2.length≤20):(zd l).length≤20 * l.length:=by
 induction l with
 | nil=>simp[zd]
 | cons p l ih=>
  have h1:=h p (by simp)
  have h2:=ih (fun q hq=>h q (by simp[hq]))
  unfold zd at *;rw[flatMap_cons,length_append,length_cons];omega
theorem intsV_app(a b:List Int):za a++za b=za (a++b):=by unfold za;rw[map_append]
theorem zk(a:List Int):(za a).length=a.length:=length_map _
theorem used_cells_s{n L:Nat}{N:NL}{H:Hp}(q:NetA H L N)(hs:Small N)(hu:(srcs N++outs N).Nodup):
  ∃ S r M H',callF P 1000 (n+2) 38 [.ref (L+1)] H=some (.ref r,H')∧UsedOk N S∧DictK H' r (idxI S) M∧Keep H H':=by
 obtain⟨v,H',e,S,r,M,rfl,r1,r2,r3⟩:∃ v H',callF P 1000 (n+2) 38 [.ref (L+1)] H=some (v,H')∧∃ S r M,v= .ref r∧UsedOk N S∧DictK H' r (idxI S) M∧Keep H H':=by
  refine zF (fn:=f_used_cells) rfl rfl ?_
  unfold f_used_cells;obtain⟨d,h0,d1,d2,d3⟩:=drivers_s (W:=1000) (n:=n) q hs hu;generalize callF P 1000 (n+1)=cl at *;simp only[SA,Nat.reduceSub,SN,SK];have hdl:=d3.lt;refine zb (v:= .ref d) (h1:=h0) (m1:=[some (.ref (L+1)),some (.ref d),none,none,none,none,none]) (zi (vs:=[.ref (L+1)]) (h1:=H) (by simp only[QX]) d1) (by simp only[QX]) ?_
  refine zb (v:= .ref h0.length) (h1:=h0++[.dict []]) (m1:=[some (.ref (L+1)),some (.ref d),some (.ref h0.length),none,none,none,none]) (by simp only[QX,pairUp];rfl) (by simp only[QX]) ?_
  refine zb (v:= .ref (h0.length+1)) (h1:=(h0++[.dict []])++[.list []]) (m1:=[some (.ref (L+1)),some (.ref d),some (.ref h0.length),some (.ref (h0.length+1)),none,none,none]) (by simp only[QX,length_append,length_singleton]) (by simp only[QX]) ?_
  rw[append_assoc];have k0:Keep h0 (h0++([AO.dict []]++[AO.list []])):=Keep.push _ _;have u0:(h0++([AO.dict []]++[AO.list []]))[h0.length]? =some (.dict []):=ze;have l0:(h0++([AO.dict []]++[AO.list []]))[h0.length+1]? =some (.list []):=get_off;generalize h0++([AO.dict []]++[AO.list []])=h1 at *;have q1:=q.keep (d2.trans k0);have at1:=q1.attr;obtain⟨vo,o1,o2⟩:=q.outp;have o3:=d2 _ _ o1;have hol:N.outputs.length≤20:=hs.co;refine ok_for (x:= .ref (L+3)) (vs:=vo) (gd:=some (L+3,.list vo)) (h1:=h1) (fun j m h=>(∃ x y,m=[some (.ref (L+1)),some (.ref d),some (.ref h0.length),some (.ref (h0.length+1)),x,y,none])∧Keep h0 h∧h[h0.length]? =some (.dict [])∧h[h0.length+1]? =some (.list (za (zd (N.outputs.take j)))))
   (by simp only[QX,at1]) (zg _ _ _ (k0 _ _ o3)) ⟨⟨none,none,rfl⟩,k0,u0,l0⟩ (fun j m h _ s=>by unfold guardOk;simp[s.2.1 _ _ o3]) ?_ ?_
  ·rintro j v m h hv ⟨⟨x,y,rfl⟩,a1,a2,a3⟩
   have hj:=(gS.mp hv).1;rw[o2.1]at hj;obtain⟨a,b1,b2,b3⟩:=o2.2 j _ (getElem?_eq_getElem hj);have ht:N.outputs.take (j+1)=N.outputs.take j++[N.outputs[j]]:=by rw[take_add_one,getElem?_eq_getElem hj];rfl
   have hpl:=hs.po _ (getElem_mem hj);generalize N.outputs[j]=p at *;rw[hv]at b2;cases b2;refine⟨[some (.ref (L+1)),some (.ref d),some (.ref h0.length),some (.ref (h0.length+1)),some (.str p.1),some (.ref a),none],by simp only[QX],?_⟩
   have b4:=a1 _ _ (d2 _ _ b3);have hal:=(gS.mp (d2 _ _ b3)).1;have hnl:=netsOf_len (l:=N.outputs.take j) (fun p hp=>hs.po p (mem_of_mem_take hp))
   rw[length_take]at hnl;have hev:evE cl (.bm .extend (.loc 3) [(.loc 5)]) [some (.ref (L+1)),some (.ref d),some (.ref h0.length),some (.ref (h0.length+1)),some (.str p.1),some (.ref a),none] [] h=some (.none,h.set (h0.length+1) (.list (za (zd (N.outputs.take j))++za p.2))):=by
    simp only[QX,bm_ok a3 (by simp:Me.extend≠ .get),bmV,a3,b4]
    rw[if_pos ⟨by omega,by rw[zk,zk];exact zp (by omega)⟩]
   refine ok_expr hev (zn ⟨by simp,⟨_,_,rfl⟩,a1.set (by omega),?_,?_⟩)
   ·rw[getElem?_set_ne (by omega)];exact a2
   ·rw[zB _ _ _ (gS.mp a3).1,intsV_app,ht]
    unfold zd;rw[flatMap_append,flatMap_cons,flatMap_nil,append_nil]
  ·rintro m h ⟨⟨x,y,rfl⟩,a1,a2,a3⟩
   rw[o2.1,take_length]at a3;have hnl:=netsOf_len (l:=N.outputs) hs.po;have hn20:=hs.cc;refine ok_while (fun k m h=>∃ S Pn w,k=Pn.length+20 * (20 - S.length)∧m=[some (.ref (L+1)),some (.ref d),some (.ref h0.length),some (.ref (h0.length+1)),x,y,w]∧Keep h0 h∧DictK h h0.length (idxI S) S.length∧h[h0.length+1]? =some (.list (za Pn))∧UInv N S Pn∧k<1000)
    (fun m h=>∃ S w,m=[some (.ref (L+1)),some (.ref d),some (.ref h0.length),some (.ref (h0.length+1)),x,y,w]∧Keep h0 h∧DictK h h0.length (idxI S) S.length∧UInv N S []) ((zd N.outputs).length+20 * (20 - ([]:List Nat).length)) (by simp;omega) ⟨[],_,none,rfl,rfl,a1,⟨[],a2,by simp,fun x=>by simp[dfind,idxI]⟩,a3,UInv.init N,by simp;omega⟩ ?_ ?_
   ·rintro k m h ⟨S,Pn,w,hk,rfl,a1,a2,a3,u,hk2⟩
    rcases List.eq_nil_or_concat Pn with rfl | ⟨Pq,z,hPq⟩
    ·left
     exact⟨h,by simp only[QX,truthy,a3];rfl,S,w,rfl,a1,a2,u⟩
    ·rw[concat_eq_append]at hPq
     obtain⟨Pn2,hPn2⟩:∃ Pn2,Pn2=Pq:=⟨_,rfl⟩;rw[← hPn2]at hPq;clear hPn2;subst hPq;right
     have hne:(za (Pn2++[z])).isEmpty=false:=by unfold za;simp
     refine⟨h,by simp only[QX,truthy,a3,hne];rfl,?_⟩
     have hSl:=u.len;have d4:=d3.keep a1;have d5:=d4.other (r2:=h0.length+1) (o:= .list (za Pn2)) (by omega)
     have hgl:(za (Pn2++[z])).getLast? =some (.int z):=by unfold za;rw[map_append,map_cons,map_nil,List.getLast?_concat]
     have hdl2:(za (Pn2++[z])).dropLast=za Pn2:=by unfold za;rw[map_append,map_cons,map_nil,List.dropLast_concat]
     refine zb (v:= .int ((drvI N.cells z).getD (-1))) (h1:=h.set (h0.length+1) (.list (za Pn2))) (m1:=[some (.ref (L+1)),some (.ref d),some (.ref h0.length),some (.ref (h0.length+1)),x,y,some (.int ((drvI N.cells z).getD (-1)))]) (by
      simp only[QX,d4.ok,bm_ok a3 (by simp:Me.pop≠ .get)]
      simp only[bmV,a3,hgl,hdl2,Option.map_some,Option.bind_some];exact d5.get z (-1)) (by simp only[QX]) ?_
     have b1:=a1.set (a:=h0.length+1) (o:= .list (za Pn2)) (by omega)
     have b2:=a2.other (r2:=h0.length+1) (o:= .list (za Pn2)) (by omega)
     have b3:(h.set (h0.length+1) (.list (za Pn2)))[h0.length+1]? =some (.list (za Pn2)):=zB _ _ _ (gS.mp a3).1;generalize h.set (h0.length+1) (AO.list (za Pn2))=h2 at *;rw[length_append,length_singleton]at hk;cases hdr:drvs N.cells z with
     | none=>
      have e1:(drvI N.cells z).getD (-1)= -1:=by unfold drvI;rw[hdr];rfl
      rw[e1];exact ok_skip (h1:=h2) (and_short (by simp only[QX];rfl)) (zn ⟨by simp,Pn2.length+20 * (20 - S.length),by omega,S,Pn2,_,rfl,rfl,b1,b2,b3,u.pop (fun b hb=>by rw[hdr]at hb;cases hb),by omega⟩)
     | some b=>
      have e1:(drvI N.cells z).getD (-1)=b:=by unfold drvI;rw[hdr];rfl
      have hbl:b<N.cells.length:=by
       have hdr':=hdr;unfold drvs at hdr';rw[findIdx?_eq_some_iff_findIdx_eq]at hdr';exact hdr'.1
      rw[e1];have hge:evE cl (.cmp .ge (.loc 6) (.const (.int 0))) [some (.ref (L+1)),some (.ref d),some (.ref h0.length),some (.ref (h0.length+1)),x,y,some (.int b)] [] h2=some (.bool true,h2):=by
       simp only[QX];try (congr 3;try simp)
      refine ok_if (c:=true&& !decide ((b:Int)∈idxI S)) (h1:=h2) (and2 (x:=true) (y:= !decide ((b:Int)∈idxI S)) hge (by simp only[QX,b2.has])) ?_ ?_
      ·intro hc
       have hbS:b∉S:=by
        intro hb;rw[← ints_mem]at hb;simp[hb]at hc
       have hu2:=u.add hdr hbl hbS;have hSl2:=hu2.len;rw[length_append,length_singleton]at hSl2;obtain⟨o,o1,o2⟩:=b2.put b (.bool true) (by omega)
       refine zw (v:= .bool true) (x:= .ref h0.length) (y:= .int b) (h1:=h2) (h2:=h2) (h3:=h2) (by simp only[QX]) (by simp only[QX]) (by simp only[QX]) o1 ?_
       have b1:=b1.set (a:=h0.length) (o:=o) (by omega)
       have b3:(h2.set h0.length o)[h0.length+1]? =some (.list (za Pn2)):=by rw[getElem?_set_ne (by omega)];exact b3
       generalize h2.set h0.length o=h3 at *;have q3:=q.keep (d2.trans b1);have at3:=q3.attr;have hcs:=cell_sub q3 hbl;have hil:=hs.ni _ (cA_mem hbl);have hins:idxI (S++[b])=idxI S++[(b:Int)]:=by unfold idxI;simp
       generalize cA N.cells b=c at *;have hev:evE cl (.bm .extend (.loc 3) [(.sub (.sub (.attr (.loc 0) nCells) (.loc 6)) (.const (.int 2)))]) [some (.ref (L+1)),some (.ref d),some (.ref h0.length),some (.ref (h0.length+1)),x,y,some (.int b)] [] h3=some (.none,h3.set (h0.length+1) (.list (za Pn2++za c.ins))):=by
        simp only[QX,bm_ok b3 (by simp:Me.extend≠ .get),at3,hcs,Cell.v,bmV,b3]
        rw[if_pos (by rw[zk,zk];exact zp (by omega))]
       refine ok_expr hev (zx ⟨by simp,Pn2.length+c.ins.length+20 * (20 - (S.length+1)),by omega,S++[b],Pn2++c.ins,_,by simp,rfl,b1.set (by omega),?_,?_,hu2,by omega⟩)
       ·rw[hins,length_append,length_singleton]
        exact o2.other (by omega)
       ·rw[zB _ _ _ (gS.mp b3).1,intsV_app]
      ·intro hc
       have hbS:b∈S:=by
        rw[← ints_mem];simpa using hc
       exact zx ⟨by simp,Pn2.length+20 * (20 - S.length),by omega,S,Pn2,_,rfl,rfl,b1,b2,b3,u.pop (fun b' hb'=>by rw[hdr]at hb';cases hb';exact hbS),by omega⟩
   ·rintro m h ⟨S,w,rfl,a1,a2,u⟩
    exact zA (v:= .ref h0.length) (h1:=h) (by simp only[QX]) (Or.inl ⟨_,rfl,S,_,_,rfl,u.done,a2,d2.trans a1⟩)
 exact⟨S,r,M,H',e,r1,r2,r3⟩
def zj(l:List Cell)(S:List Nat):List Cell:=((List.range l.length).filter fun i=>decide (i∈S)).map (cA l)
theorem drop_unused_s{n L:Nat}{N:NL}{H:Hp}(q:NetA H L N)(hs:Small N)(hu:(srcs N++outs N).Nodup):
  ∃ S L' H',callF P 1000 (n+4) 39 [.ref (L+1)] H=some (.ref (L'+1),H')∧UsedOk N S∧NetA H' L' (rebuild N (zj N.cells S) (fun _=>none))∧Keep H H':=by
 obtain⟨v,H',e,S,L',rfl,r1,r2,r3⟩:∃ v H',callF P 1000 (n+4) 39 [.ref (L+1)] H=some (v,H')∧∃ S L',v= .ref (L'+1)∧UsedOk N S∧NetA H' L' (rebuild N (zj N.cells S) (fun _=>none))∧Keep H H':=by
  refine zF (fn:=f_drop_unused) rfl rfl ?_
  unfold f_drop_unused;obtain⟨S,u,M,h0,d1,d2,d3,d4⟩:=used_cells_s (n:=n+1) q hs hu;have hreb:=fun rc r M cells rep h (q:NetA h L N)=>rebuilt_cells_s (n:=n) (rc:=rc) (r:=r) (M:=M) (cells:=cells) (rep:=rep) q hs
  simp only[Nat.add_assoc,Nat.reduceAdd]at d1 hreb;generalize callF P 1000 (n+3)=cl at *;simp only[SA,Nat.reduceSub,SN,SK];have hn20:=hs.cc;refine zb (v:= .ref u) (h1:=h0) (m1:=[some (.ref (L+1)),some (.ref u),none,none]) (zi (vs:=[.ref (L+1)]) (h1:=H) (by simp only[QX]) d1) (by simp only[QX]) ?_
  refine zb (v:= .ref h0.length) (h1:=h0++[.list []]) (m1:=[some (.ref (L+1)),some (.ref u),some (.ref h0.length),none]) (by simp only[QX]) (by simp only[QX]) ?_
  have k0:Keep h0 (h0++[AO.list []]):=Keep.push _ _;have u0:(h0++[AO.list []])[h0.length]? =some (.list []):=ze;generalize h0++[AO.list []]=h1 at *;have q1:=q.keep (d4.trans k0);have at1:=q1.attr;have hb:=bi_len q1.cel;refine ok_range (n:=N.cells.length) (h1:=h1) (fun j m h=>(∃ x,m=[some (.ref (L+1)),some (.ref u),some (.ref h0.length),x])∧Keep h0 h∧h[h0.length]? =some (.list ((((List.range j).filter fun i=>decide (i∈S)).map (cA N.cells)).map Cell.v)))
   (by simp only[QX,at1,hb,length_map]) (by omega) ⟨⟨none,rfl⟩,k0,u0⟩ ?_ ?_
  ·rintro j m h hj ⟨⟨x,rfl⟩,a1,a2⟩
   have q2:=q.keep (d4.trans a1);have at2:=q2.attr;have hcs:=cell_sub q2 hj;have d5:=d3.keep a1;have hr:∀ b,decide (j∈S)=b→(((List.range (j+1)).filter fun i=>decide (i∈S)).map (cA N.cells)).map Cell.v=(((List.range j).filter fun i=>decide (i∈S)).map (cA N.cells)).map Cell.v++(if b then [(cA N.cells j).v] else []):=by
    intro b hb;rw[range_succ,filter_append,map_append,map_append];congr 1
    simp only[filter_cons,hb,filter_nil];cases b<;>rfl
   refine⟨[some (.ref (L+1)),some (.ref u),some (.ref h0.length),some (.int j)],by simp only[QX],?_⟩
   refine ok_if (c:=decide (j∈S)) (h1:=h) (by simp only[QX,d5.has,ints_mem]) ?_ ?_
   ·intro e
    refine ok_expr (zM (a:=h0.length) (h1:=h) (h2:=h) (v:=(cA N.cells j).v) (by simp only[QX]) a2 (by simp only[QX,at2,hcs]) a2 (by
     rw[length_map,length_map];have:=length_filter_le (fun i=>decide (i∈S)) (List.range j)
     rw[length_range]at this;omega)) (zx ⟨by simp,⟨_,rfl⟩,a1.set (by omega),?_⟩)
    rw[zB _ _ _ (gS.mp a2).1,hr true e];rfl
   ·intro e
    refine zx ⟨by simp,⟨_,rfl⟩,a1,?_⟩
    rw[hr false e,a2];simp
  ·rintro m h ⟨⟨x,rfl⟩,a1,a2⟩
   have k2:=Keep.push h [.dict []];have hkl:(zj N.cells S).length≤20:=by
    unfold zj;rw[length_map];have:=length_filter_le (fun i=>decide (i∈S)) (List.range N.cells.length)
    rw[length_range]at this;omega
   obtain⟨L',h',e1,e2,e3⟩:=hreb h0.length h.length 0 (zj N.cells S) (fun _=>none) (h++[.dict []]) ((q.keep (d4.trans a1)).keep k2) (k2 _ _ a2) (by omega) (fun c hc=>by
    unfold zj at hc;obtain⟨i,hi,rfl⟩:=mem_map.mp hc;rw[mem_filter,mem_range]at hi;have:=hs.ni _ (cA_mem hi.1);omega) DictI.new (fun x y e=>by cases e)
   exact zA (v:= .ref (L'+1)) (h1:=h') (zi (vs:=[.ref (L+1),.ref h0.length,.ref h.length]) (h1:=h++[.dict []]) (by simp only[QX,pairUp];rfl) e1) (Or.inl ⟨_,rfl,S,L',rfl,d2,e2,((d4.trans a1).trans k2).trans e3⟩)
 exact⟨S,L',H',e,r1,r2,r3⟩
def sLid:Nat:=2147483648
def HandAt(h:Hp)(r:Nat):Prop:=∃ (c:Nat) (xs:List Int) (i:Nat) (d s:Nat) (z:AV),h[r]? =some (.list [.ref c,.int i,.int d,.int s,z])∧h[c]? =some (.list (za xs))∧i≤xs.length∧s<sLid∧c<r
theorem evE_neg{cl:Caller}{a:E}{m c:Loc}{h h1:Hp}{i:Int}(e:evE cl a m c h=some (.int i,h1)):evE cl (.neg a) m c h=some (.int (-i),h1):=by
 rw[evE];simp only[e,Option.bind_eq_bind,Option.bind_some]
theorem bi_min2{h:Hp}{a b:Int}:biV h .min2 [.int a,.int b]=some (.int (if b<a then b else a),h):=rfl
theorem lcg0{cl:Caller}{r:Nat}{s z M t s2:Int}{x y:Option AV}{h:Hp}(hs:subV h (.ref r) (.int 3)=some (.int s))(m1:intOp .mul s z=some t)(m2:intOp .mod t M=some s2):evE cl (.bin .mod (.bin .mul (.sub (.loc 0) (.const (.int 3))) (.const (.int z))) (.const (.int M))) [some (.ref r),y,x,none] [] h=some (.int s2,h):=by
 simp only[QX,hs,m1,m2]
theorem lcg1{s:Nat}(hl:s<sLid):∃ t:Nat,intOp .mul (s:Int) 48271=some (t:Int):=by
 have hl:s<2147483648:=hl;refine⟨s * 48271,?_⟩
 unfold intOp mulLid;simp only;rw[if_pos (by omega)];simp
theorem lcg2(z:Nat):intOp .mod (z:Int) 2147483647=some ((z % 2147483647:Nat):Int):=by
 unfold intOp;simp only;rw[if_pos (by omega)]
 simp
theorem lcg3(t:Nat):t % 2147483647<sLid:=by unfold sLid;omega
theorem lcg_s{cl:Caller}{r s:Nat}{x y:Option AV}{h:Hp}(hs:subV h (.ref r) (.int 3)=some (.int s))(hl:s<sLid):∃ s2:Nat,s2<sLid∧evE cl (.bin .mod (.bin .mul (.sub (.loc 0) (.const (.int 3))) (.const (.int 48271))) (.const (.int 2147483647))) [some (.ref r),y,x,none] [] h=some (.int s2,h):=by
 obtain⟨t,m1⟩:=lcg1 hl;exact⟨_,lcg3 t,lcg0 hs m1 (lcg2 t)⟩
theorem set_list{h:Hp}{a i:Nat}{vs:List AV}{v:AV}(e:h[a]? =some (.list vs))(hi:i<vs.length):setSubV h (.ref a) (.int i) v=some (h.set a (.list (vs.set i v))):=by
 simp only[setSubV,e];rw[if_pos ⟨by omega,by simpa using hi⟩,Int.toNat_natCast]
theorem pick_s{W n r lim:Nat}{h:Hp}(hh:HandAt h r)(h1:1≤lim)(h2:lim≤1000):∃ (v:Nat) (o:AO),callF P W (n+1) 40 [.ref r,.int lim] h=some (.int v,h.set r o)∧v<lim∧HandAt (h.set r o) r:=by
 obtain⟨v,H',e,w,o,rfl,rfl,r1,r2⟩:∃ v H',callF P W (n+1) 40 [.ref r,.int lim] h=some (v,H')∧∃ (w:Nat) (o:AO),v= .int w∧H'=h.set r o∧w<lim∧HandAt (h.set r o) r:=by
  refine zF (fn:=f_law_pick) rfl rfl ?_
  unfold f_law_pick;generalize callF P W n=cl at *;simp only[SA,Nat.reduceSub,SN,SK];obtain⟨c,xs,i,d,s,z,e1,e2,e3,e4,e5⟩:=hh;have hrl:=(gS.mp e1).1;have sub0:∀ (g:Hp) (a b e:AV),g[r]? =some (.list [.ref c,a,b,e,z])→(subV g (.ref r) (.int 0)=some (.ref c)∧subV g (.ref r) (.int 1)=some a∧subV g (.ref r) (.int 2)=some b∧subV g (.ref r) (.int 3)=some e):=by
   intro g a b e hg;refine⟨?_,?_,?_,?_⟩<;>(simp only[subV,hg];rfl)
  have other:∀ o,(h.set r o)[c]? =some (.list (za xs)):=fun o=>by rw[getElem?_set_ne (by omega)];exact e2
  have fin:∀ (g:Hp) (i' d' s':Nat) (x:Option AV) (o:AO),g=h.set r o→g[r]? =some (.list [.ref c,.int i',.int d',.int s',z])→i'≤xs.length→s'<sLid→Ok (exL cl W [.assign (.one 3) (.bin .mod (.sub (.loc 0) (.const (.int 2))) (.loc 1)),.setSub (.loc 0) (.const (.int 2)) (.bin .fdiv (.sub (.loc 0) (.const (.int 2))) (.loc 1)),.ret (.loc 3)] [some (.ref r),some (.int lim),x,none] g) (fun f _ h'=>(∃ v,f= .ret v∧∃ (w:Nat) (o:AO),v= .int w∧h'=h.set r o∧w<lim∧HandAt (h.set r o) r)∨(f= .next∧∃ (w:Nat) (o:AO),AV.none= .int w∧h'=h.set r o∧w<lim∧HandAt (h.set r o) r)):=by
   intro g i' d' s' x o hgo hg hi hs;have s0:=sub0 g _ _ _ hg;have m1:=mod_n (a:=d') (b:=lim) (by omega)
   have m2:=fdiv_n (a:=d') (b:=lim) (by omega) (by omega)
   refine zb (v:= .int (d' % lim:Nat)) (h1:=g) (m1:=[some (.ref r),some (.int lim),x,some (.int (d' % lim:Nat))]) (by simp only[QX,s0,m1]) (by simp only[QX]) ?_
   refine zw (v:= .int (d' / lim:Nat)) (x:= .ref r) (y:= .int 2) (h1:=g) (h2:=g) (h3:=g) (h4:=g.set r (.list [.ref c,.int i',.int (d' / lim:Nat),.int s',z])) (by simp only[QX,s0,m2]) (by simp only[QX]) (by simp only[QX]) (set_list (i:=2) hg (by simp)) ?_
   refine zA (v:= .int (d' % lim:Nat)) (h1:=g.set r (.list [.ref c,.int i',.int (d' / lim:Nat),.int s',z])) (by simp only[QX]) (Or.inl ⟨_,rfl,d' % lim,.list [.ref c,.int i',.int (d' / lim:Nat),.int s',z],rfl,?_,Nat.mod_lt _ (by omega),?_⟩)
   ·rw[hgo,set_set]
   ·exact⟨c,xs,i',d' / lim,s',z,zB _ _ _ hrl,other _,hi,hs,e5⟩
  have s0:=sub0 h _ _ _ e1;have hself:h=h.set r (.list [.ref c,.int i,.int d,.int s,z]):=by
   apply List.ext_getElem?
   intro k;by_cases hk:r=k
   ·subst hk;rw[zB _ _ _ hrl];exact e1
   ·rw[getElem?_set_ne hk]
  refine ok_if (c:=decide ((d:Int)=0)) (h1:=h) (by simp only[QX,s0]) ?_ ?_
  ·intro q0
   refine ok_if (c:=decide ((i:Int)=xs.length)) (h1:=h) (by simp only[QX,s0,bi_len e2,zk]) ?_ ?_
   ·intro q1
    obtain⟨s2,hsl,hev⟩:=lcg_s (cl:=cl) (x:=none) (y:=some (.int lim)) s0.2.2.2 e4;have m3:intOp .fdiv (s2:Int) 7=some ((s2 / 7:Nat):Int):=fdiv_n (a:=s2) (b:=7) (by omega) (by omega)
    have m4:=mod_n (a:=s2 / 7) (b:=lim) (by omega)
    have hg:(h.set r (.list [.ref c,.int i,.int d,.int s2,z]))[r]? =some (.list [.ref c,.int i,.int d,.int s2,z]):=zB _ _ _ hrl;have s1:=sub0 _ _ _ _ hg;refine zw (v:= .int s2) (x:= .ref r) (y:= .int 3) (h1:=h) (h2:=h) (h3:=h) (h4:=h.set r (.list [.ref c,.int i,.int d,.int s2,z])) hev (by simp only[QX]) (by simp only[QX]) (set_list (i:=3) e1 (by simp)) ?_
    refine zA (v:= .int (s2 / 7 % lim:Nat)) (h1:=h.set r (.list [.ref c,.int i,.int d,.int (s2:Nat),z])) (by
     simp only[QX,s1,m3,m4]) ⟨fun e=>by simp at e,fun _=>⟨fun e=>by simp at e,fun _=>Or.inl ⟨_,rfl,_,_,rfl,rfl,Nat.mod_lt _ (by omega),⟨c,xs,i,d,s2,z,hg,other _,e3,hsl,e5⟩⟩⟩⟩
   ·intro q1
    have q1:=of_decide_eq_false q1;have hil:i<xs.length:=by omega
    refine ok_end ?_
    have hx:(za xs)[i]? =some (.int xs[i]):=by unfold za;rw[getElem?_map,getElem?_eq_getElem hil];rfl
    generalize xs[i]=x at hx;refine zb (v:= .int x) (h1:=h) (m1:=[some (.ref r),some (.int lim),some (.int x),none]) (by simp only[QX,s0,sub_list e2,hx]) (by simp only[QX]) ?_
    have hg:(h.set r (.list [.ref c,.int (i+1:Nat),.int d,.int s,z]))[r]? =some (.list [.ref c,.int (i+1:Nat),.int d,.int s,z]):=zB _ _ _ hrl;refine zw (v:= .int (i+1:Nat)) (x:= .ref r) (y:= .int 1) (h1:=h) (h2:=h) (h3:=h) (h4:=h.set r (.list [.ref c,.int (i+1:Nat),.int d,.int s,z])) (by simp only[QX,s0];rfl) (by simp only[QX]) (by simp only[QX]) (set_list (i:=1) e1 (by simp)) ?_
    have habs:∀ g,evE cl (.ite (.cmp .ge (.loc 2) (.const (.int 0))) (.loc 2) (.neg (.loc 2))) [some (.ref r),some (.int lim),some (.int x),none] [] g=some (.int (x.natAbs:Nat),g):=by
     intro g;by_cases hx0:0≤x
     ·have:decide (x≥0)=true:=by simpa using hx0
      simp only[QX,this];congr 3;omega
     ·have:decide (x≥0)=false:=by simpa using hx0
      simp only[QX,this];rw[evE_neg (i:=x) (h1:=g) (by simp only[QX])]
      congr 3;omega
    refine zw (v:= .int (x.natAbs:Nat)) (x:= .ref r) (y:= .int 2) (h4:=(h.set r (.list [.ref c,.int (i+1:Nat),.int d,.int s,z])).set r (.list [.ref c,.int (i+1:Nat),.int (x.natAbs:Nat),.int s,z])) (habs _) (by simp only[QX]<;>rfl) (by simp only[QX]<;>rfl) (set_list (i:=2) hg (by simp)) (ok_end ?_)
    exact fin _ (i+1) x.natAbs s _ (.list [.ref c,.int (i+1:Nat),.int (x.natAbs:Nat),.int s,z]) (by rw[set_set]) (zB _ _ _ (by rw[length_set];exact hrl)) (by omega) e4
  ·intro q0
   exact ok_end (fin h i d s none _ hself e1 e3 e4)
 exact⟨w,o,e,r1,r2⟩
theorem seqAt_neg{P:List Int}{k:Nat}(hk:k<P.length):∃ x∈P,seqAt (za P) (-1 - (k:Int))=some (.int x):=by
 have hj:P.length - 1 - k<P.length:=by omega
 refine⟨P[P.length - 1 - k],getElem_mem hj,?_⟩
 unfold seqAt;rw[if_neg (by omega),if_pos (by rw[zk];omega)]
 have:(-1 - (k:Int)+((za P).length:Nat)).toNat=P.length - 1 - k:=by rw[zk];omega
 rw[this];unfold za;rw[getElem?_map,getElem?_eq_getElem hj];rfl
theorem near_s{W n r pl:Nat}{P0:List Int}{h:Hp}(hh:HandAt h r)(hp:h[pl]? =some (.list (za P0)))(hne:pl≠r)(h1:1≤P0.length)(h2:P0.length≤1000):∃ (x:Int) (o:AO),callF P W (n+2) 42 [.ref r,.ref pl] h=some (.int x,h.set r o)∧x∈P0∧HandAt (h.set r o) r:=by
 obtain⟨v,H',e,w,o,rfl,rfl,r1,r2⟩:∃ v H',callF P W (n+2) 42 [.ref r,.ref pl] h=some (v,H')∧∃ (w:Int) (o:AO),v= .int w∧H'=h.set r o∧w∈P0∧HandAt (h.set r o) r:=by
  refine zF (fn:=f_law_near) rfl rfl ?_
  unfold f_law_near;have pk:=fun lim h=>pick_s (W:=W) (n:=n) (r:=r) (lim:=lim) (h:=h)
  generalize callF P W (n+1)=cl at *;simp only[SA,Nat.reduceSub,SN,SK];obtain⟨v1,o1,a1,a2,a3⟩:=pk 3 h hh (by omega) (by omega)
  have hp1:(h.set r o1)[pl]? =some (.list (za P0)):=by rw[getElem?_set_ne (fun e=>hne e.symm)];exact hp
  refine ok_if (c:=decide ((v1:Int)=0)) (h1:=h.set r o1) (by
   simp only[QX];rw[show ((3:Int))=((3:Nat):Int) from rfl,a1];simp only[Option.bind_some,QX]) ?_ ?_
  ·intro _
   obtain⟨v2,o2,b1,b2,b3⟩:=pk P0.length _ a3 h1 h2;have hp2:((h.set r o1).set r o2)[pl]? =some (.list (za P0)):=by rw[getElem?_set_ne (fun e=>hne e.symm)];exact hp1
   have hx:(za P0)[v2]? =some (.int P0[v2]):=by unfold za;rw[getElem?_map,getElem?_eq_getElem b2];rfl
   refine zA (v:= .int P0[v2]) (h1:=(h.set r o1).set r o2) (by simp only[QX,bi_len hp1,zk,b1,sub_list hp2,hx]) ⟨fun e=>by simp at e,fun _=>Or.inl ⟨_,rfl,_,o2,rfl,by rw[set_set],getElem_mem b2,by rw[set_set]at b3;exact b3⟩⟩
  ·intro _
   refine ok_end ?_
   have hmin:(if (6:Int)<((P0.length:Nat):Int) then (6:Int) else ((P0.length:Nat):Int))=((min P0.length 6:Nat):Int):=by split<;>omega
   obtain⟨v2,o2,b1,b2,b3⟩:=pk (min P0.length 6) _ a3 (by omega) (by omega)
   have hp2:((h.set r o1).set r o2)[pl]? =some (.list (za P0)):=by rw[getElem?_set_ne (fun e=>hne e.symm)];exact hp1
   obtain⟨x,hx1,hx2⟩:=seqAt_neg (P:=P0) (k:=v2) (by omega)
   refine zA (v:= .int x) (h1:=(h.set r o1).set r o2) (by
    simp only[QX,bi_len hp1,zk,bi_min2,hmin,b1];simp only[subV,hp2,hx2,Option.map_some]) (Or.inl ⟨_,rfl,_,o2,rfl,by rw[set_set],hx1,by rw[set_set]at b3;exact b3⟩)
 exact⟨w,o,e,r1,r2⟩
theorem comp_ints{cl:Caller}{m:Loc}{h h1:Hp}{it e:E}{w:Nat}(I:Nat→Hp→Prop)(Px:Nat→Int→Prop)(e1:evE cl it m [] h=some (.int w,h1))(hw:w≤1000)(i0:I 0 h1)
  (hs:∀ j h,j<w→I j h→∃ x h',evE cl e m [some (.int j)] h=some (.int x,h')∧Px j x∧I (j+1) h'):
  ∃ xs h',evE cl (.comp 1 (.one 0) true it (.elt e)) m [] h=some (.ref h'.length,h'++[.list (za xs)])∧xs.length=w∧(∀ j x,xs[j]? =some x→Px j x)∧I w h':=by
 obtain⟨⟨c',h',acc⟩,e2,s⟩:=loopIt_idx (hp:=fun (s:Loc × Hp × List AV)=>s.2.1) (gd:=none) (f:=fun (s:Loc × Hp × List AV) v=>do
   let c' ← bindT s.1 (.one 0) v
   evG cl (.elt e) m c' s.2.1 s.2.2) (fun j s=>s.1.length=1∧I j s.2.1∧∃ xs,s.2.2=za xs∧xs.length=j∧∀ j x,xs[j]? =some x→Px j x) (vs:=(List.range w).map fun (i:Nat)=>AV.int i) (x:=([none],h1,[])) (fun p s q=>rfl)
  (fun j v s ep st=>by
   obtain⟨c,h',acc⟩:=s;obtain⟨s1,s2,xs,s3,s4,s5⟩:=st;simp only at s1 s2 s3;subst s3;obtain⟨y,rfl⟩:∃ y,c=[y]:=by
    cases c with
    | nil=>simp at s1
    | cons y t=>cases t with
     | nil=>exact ⟨y,rfl⟩
     | cons z t=>simp at s1
   have hj:j<w:=by have:=(gS.mp ep).1;simpa using this
   rw[getElem?_map,getElem?_range hj]at ep;simp only[Option.map_some,Option.some.injEq]at ep;subst ep;obtain⟨x,h2,hv,hx,hI⟩:=hs j h' hj s2;have:(za xs).length<lenLid:=by rw[zk];exact zp (by omega)
   refine⟨([some (.int j)],h2,za (xs++[x])),?_,rfl,hI,xs++[x],rfl,by simp[s4],fun k z hk=> ?_⟩
   ·have hsn:za xs++[AV.int x]=za (xs++[x]):=by unfold za;simp
    unfold evG;simp only[bindT,length_cons,length_nil,Nat.zero_add,Nat.reduceLT,if_true,Option.bind_eq_bind,Option.bind_some,set_cons_zero,hv,this,hsn]
   ·by_cases hkl:k<xs.length
    ·rw[getElem?_append_left hkl]at hk
     exact s5 k z hk
    ·have hl:=(gS.mp hk).1
     rw[length_append,length_singleton]at hl;have hkj:k=j:=by omega
     subst hkj;rw[← s4,getElem?_append_right (Nat.le_refl _),Nat.sub_self]at hk;cases hk;exact hx) ⟨rfl,i0,[],rfl,rfl,fun j x e=>by simp at e⟩
 simp only[length_map,length_range]at s;obtain⟨_,s2,xs,rfl,s4,s5⟩:=s;exact⟨xs,h',evE_comp e1 (items_range h1 w (zp hw)) e2,s4,s5,s2⟩
theorem new_net_s{W n L:Nat}{N:NL}{h:Hp}(q:NetA h L N):∃ h',callF P W (n+1) 2 [.ref (L+1)] h=some (.int N.count,h')∧NetA h' L { N with count:=N.count+1 }∧Kx L h h'∧h'.length=h.length:=by
 obtain⟨s1,s2⟩:=q.setCount (N.count+1);refine⟨_,zz (fn:=f_Netlist_new_net) rfl rfl ⟨[some (.ref (L+1)),some (.int N.count)],?_⟩,s2,Kx.set (Nat.le_refl _) (by omega),by rw[length_set]⟩
 unfold f_Netlist_new_net;generalize callF P W n=cl at *;simp only[SA,Nat.reduceSub,SN,SK];have at1:=q.attr;refine zC (m1:=[some (.ref (L+1)),some (.int N.count)]) (h1:=h) (zN (v:= .int N.count) (h1:=h) (by simp only[QX,at1]) (by simp only[QX])) ?_
 refine zC (m1:=[some (.ref (L+1)),some (.int N.count)]) (h1:=h.set L (.dict (netD L { N with count:=N.count+1 }))) ?_ (zD (exS_ret (by simp only[QX])))
 rw[exS];simp only[QX,Option.bind_eq_bind,at1,s1,Option.pure_def]
def zc(c:Int)(w:Nat):List Int:=(List.range w).map fun (i:Nat)=>c+i
theorem new_nets_s{W n L w:Nat}{N:NL}{h:Hp}(q:NetA h L N)(hw:w≤1000)(hl:L+4<h.length):∃ h',callF P W (n+2) 3 [.ref (L+1),.int w] h=some (.ref h'.length,h'++[.list (za (zc N.count w))])∧NetA h' L { N with count:=N.count+w }∧Kx L h h'∧h'.length=h.length:=by
 have nn:=fun (N:NL) (h:Hp)=>new_net_s (W:=W) (n:=n) (L:=L) (N:=N) (h:=h)
 have e0:∀ r,exL (callF P W (n+1)) W f_Netlist_new_nets.body ([AV.ref (L+1),.int w].map some++List.replicate 0 none) h=r→exL (callF P W (n+1)) W f_Netlist_new_nets.body ([AV.ref (L+1),.int w].map some++List.replicate (f_Netlist_new_nets.nl - f_Netlist_new_nets.np) none) h=r:=fun r e=>e
 generalize hcl:callF P W (n+1)=cl at *;obtain⟨xs,h',e,hxl,hx,hn,hk,hll⟩:=comp_ints (cl:=cl) (m:=[some (.ref (L+1)),some (.int w)]) (h:=h) (h1:=h) (it:= .loc 1) (e:= .meth (.free 0) 2 []) (w:=w) (fun j h'=>NetA h' L { N with count:=N.count+j }∧Kx L h h'∧h'.length=h.length) (fun j x=>x=N.count+j) (by simp only[QX]) hw ⟨by simpa using q,Kx.refl,rfl⟩ (fun j h2 hj ⟨a1,a2,a3⟩=>by
  obtain⟨h3,b1,b2,b3,b4⟩:=nn _ h2 a1;refine⟨N.count+j,h3,evE_meth (a:=L+1) (h1:=h2) (vs:=[]) (h2:=h2) (by simp only[QX]) a1.okI (by simp only[QX]) b1,rfl,?_,a2.trans b3,by omega⟩
  have:N.count+(j:Int)+1=N.count+((j+1:Nat):Int):=by omega
  simp only[this]at b2;exact b2)
 have hxs:xs=zc N.count w:=by
  apply List.ext_getElem?
  intro j;unfold zc;rw[getElem?_map];by_cases hj:j<w
  ·have:=hx j xs[j] (getElem?_eq_getElem (by omega))
   rw[getElem?_eq_getElem (by omega),this,getElem?_range hj]
   rfl
  ·rw[getElem?_eq_none (by omega),getElem?_eq_none (by simp;omega)]
   rfl
 subst hxs;refine⟨h',zz (fn:=f_Netlist_new_nets) rfl rfl ⟨[some (.ref (L+1)),some (.int w)],?_⟩,hn,hk,hll⟩
 rw[hcl];unfold f_Netlist_new_nets;simp only[SA,Nat.reduceSub];exact zD (exS_ret e)
theorem add_input_s{W n L w:Nat}{N:NL}{nm:Nm}{h:Hp}(q:NetA h L N)(hw:w≤1000)(hl:L+4<h.length)(hi:N.inputs.length≤1000):∃ a h',callF P W (n+3) 4 [.ref (L+1),.str nm,.int w] h=some (.ref a,h')∧NetA h' L { N with count:=N.count+w,inputs:=N.inputs++[(nm,zc N.count w)] }∧Kx L h h'∧h'[a]? =some (.list (za (zc N.count w)))∧L+4<a∧h.length≤h'.length:=by
 obtain⟨h1,e1,q1,k1,l1⟩:=new_nets_s (W:=W) (n:=n) q hw hl;have q2:=q1.keep (Keep.push h1 [.list (za (zc N.count w))]);have g2:(h1++[AO.list (za (zc N.count w))])[h1.length]? =some (.list (za (zc N.count w))):=ze;have k2:=k1.trans (Keep.push h1 [.list (za (zc N.count w))]).kx;have l2:(h1++[AO.list (za (zc N.count w))]).length=h1.length+1:=by simp
 generalize hX:h1++[AO.list (za (zc N.count w))]=h2 at *;have q3:=q2.keep (Keep.push h2 [.list (za (zc N.count w))]);obtain⟨vi,i1,i2⟩:=q2.inp;have i3:=Keep.push h2 [.list (za (zc N.count w))] _ _ i1;have q4:=q3.pushIn (p:=(nm,zc N.count w)) (a:=h2.length) i3 (by omega) ze
 refine⟨h1.length,_,zz (fn:=f_Netlist_add_input) rfl rfl ⟨[some (.ref (L+1)),some (.str nm),some (.int w),some (.ref h1.length)],?_⟩,q4,(k2.trans (Keep.push _ _).kx).trans (Kx.set (by omega) (by omega)),?_,by omega,by simp;omega⟩
 ·unfold f_Netlist_add_input
  generalize callF P W (n+2)=cl at *;simp only[SA,Nat.reduceSub,SN,SK];have at1:=q.attr;have at2:=q2.attr;refine zC (m1:=[some (.ref (L+1)),some (.str nm),some (.int w),some (.ref h1.length)]) (h1:=h2) (zN (v:= .ref h1.length) (h1:=h2) (evE_meth (a:=L+1) (h1:=h) (vs:=[.int w]) (h2:=h) (by simp only[QX]) q.okI (by simp only[QX]) e1) (by simp only[QX])) ?_
  refine zC (exS_expr (v:= .none) (zM (h1:=h2) (h2:=h2++[.list (za (zc N.count w))]) (a:=L+2) (v:= .tup [.str nm,.ref h2.length]) (by simp only[QX,at2]) i1 (by simp only[QX,bi_list g2]) i3 (by rw[i2.1];exact hi))) (zD (exS_ret (by simp only[QX])))
 ·rw[getElem?_set_ne (by omega)]
  exact Keep.push _ _ _ _ g2
theorem add_cell_s{W n L a:Nat}{N:NL}{k:Nm}{ins:List Int}{p:AV}{h:Hp}(q:NetA h L N)(ha:h[a]? =some (.list (za ins)))(hal:L+4<a)(hl:N.cells.length≤1000):∃ h',callF P W (n+2) 6 [.ref (L+1),.str k,.ref a,p] h=some (.int N.count,h')∧NetA h' L { N with count:=N.count+1,cells:=N.cells++[⟨k,N.count,ins,p⟩] }∧Kx L h h'∧h'.length=h.length:=by
 obtain⟨h1,e1,q1,k1,l1⟩:=new_net_s (W:=W) (n:=n) q;have e2:=drive_s (W:=W) (n:=n) (out:=N.count) (k:=k) (p:=p) q1 (k1 _ _ (Or.inr hal) ha) hl;refine⟨_,zz (fn:=f_Netlist_add_cell) rfl rfl ⟨[some (.ref (L+1)),some (.str k),some (.ref a),some p,some (.int N.count)],?_⟩,q1.pushCell ⟨k,N.count,ins,p⟩,k1.trans (Kx.set (by omega) (by omega)),by rw[length_set];exact l1⟩
 unfold f_Netlist_add_cell;generalize callF P W (n+1)=cl at *;simp only[SA,Nat.reduceSub,SN,SK];refine zC (m1:=[some (.ref (L+1)),some (.str k),some (.ref a),some p,some (.int N.count)]) (h1:=h1) (zN (v:= .int N.count) (h1:=h1) (evE_meth (a:=L+1) (h1:=h) (vs:=[]) (h2:=h) (by simp only[QX]) q.okI (by simp only[QX]) e1) (by simp only[QX])) ?_
 refine zC (exS_expr (v:= .none) (evE_meth (a:=L+1) (h1:=h1) (vs:=[.int N.count,.str k,.ref a,p]) (h2:=h1) (by simp only[QX]) q1.okI (by simp only[QX]) e2)) (zD (exS_ret (by simp only[QX])))
def pname(p:AV):Nm:=match p with
 | .tup [_,.str nm,_]=>nm
 | .tup [.str nm,_]=>nm
 | _=>[]
def zu(l:List Cell):List Nm:=(l.filter fun c=>isSt c.kind).map fun c=>pname c.param
structure Good(N:NL):Prop where
 small:Small N
 nd:(srcs N++outs N).Nodup
 comb:∀ c∈N.cells,isSt c.kind=false→CombOk c.kind c.ins.length c.param
 st:∀ c∈N.cells,isSt c.kind=true→StOk c.kind c.ins.length c.param
 drv:∀ c∈N.cells,∀ x∈c.ins,x∈srcs N++outs N
 drvO:∀ x∈zd N.outputs,x∈srcs N++outs N
 nn:∀ x∈srcs N++outs N,0≤x
 acyc:∃ rank:Int→Nat,∀ c∈N.cells,isSt c.kind=false→∀ d∈N.cells,isSt d.kind=false→d.out∈c.ins→rank d.out<rank c.out
 nmz:(zu N.cells).Nodup
 bits:(zd N.inputs).length+(zu N.cells).length≤6
def qn(t:Nat):Nm:=[113]++strInt t
structure BInv(N:NL)(P S CO:List Int)(t:Nat):Prop where
 cnt:∀ x∈srcs N++S++CO,0≤x∧x<N.count
 nd:(srcs N++S++CO).Nodup
 two:2∈srcs N
 inl:N.inputs.length=2
 ins:∀ p∈N.inputs,p.2.length≤2
 sl:S.length≤2
 tl:t≤S.length
 cl:CO.length≤10
 ps:∀ x∈P,x∈srcs N++S++CO
 p1:4≤P.length
 p2:P.length≤8+CO.length
 ou:outs N=CO++S.take t
 ce:∀ c∈N.cells,(isSt c.kind=false∧CombOk c.kind c.ins.length c.param∧∀ x∈c.ins,x<c.out)∨(isSt c.kind=true∧StOk c.kind c.ins.length c.param)
 ci:∀ c∈N.cells,∀ x∈c.ins,x∈srcs N++S++CO
 nm:zu N.cells=(List.range t).map qn
 oo:∀ x∈zd N.outputs,x∈srcs N++S++CO
 ol:N.outputs.length≤2
 op:∀ p∈N.outputs,p.2.length≤3
theorem stNames_app(a b:List Cell):zu (a++b)=zu a++zu b:=by unfold zu;rw[filter_append,map_append]
theorem combOk_st{k:Nm}{l:Nat}{p:AV}(h:CombOk k l p):isSt k=false:=by
 cases h with
 | gate k hk=>
  unfold gates at hk;simp only[mem_cons,not_mem_nil,or_false]at hk;rcases hk with rfl | rfl | rfl | rfl | rfl | rfl<;>decide
 | _=>decide
theorem stOk_st{k:Nm}{l:Nat}{p:AV}(h:StOk k l p):isSt k=true:=by cases h<;>decide
theorem stOk_len{k:Nm}{l:Nat}{p:AV}(h:StOk k l p):l=4:=by cases h<;>rfl
theorem BInv.comb{N:NL}{P S CO:List Int}(b:BInv N P S CO 0){k:Nm}{ins:List Int}{p:AV}(ok:CombOk k ins.length p)(hi:∀ x∈ins,x∈P)(hc:CO.length<10):
  BInv { N with count:=N.count+1,cells:=N.cells++[⟨k,N.count,ins,p⟩] } (P++[N.count]) S (CO++[N.count]) 0:=by
 have hs:srcs { N with count:=N.count+1,cells:=N.cells++[⟨k,N.count,ins,p⟩] }=srcs N:=rfl
 have hst:=combOk_st ok;have fr:N.count∉srcs N++S++CO:=fun h=>by have:=b.cnt _ h;omega
 refine⟨?_,?_,b.two,b.inl,b.ins,b.sl,b.tl,by simp;omega,?_,by simp;have:=b.p1;omega,by simp;have:=b.p2;omega,?_,?_,?_,?_,?_,b.ol,b.op⟩
 ·intro x hx
  rw[hs,← append_assoc,mem_append,mem_singleton]at hx;rcases hx with hx | rfl
  ·have:=b.cnt x hx;simp only;omega
  ·have:=b.cnt 2 (by simp[b.two]);simp only;omega
 ·rw[hs,← append_assoc,nodup_append]
  refine⟨b.nd,by simp,fun a ha c hc e=> ?_⟩
  rw[mem_singleton]at hc;subst hc e;exact fr ha
 ·intro x hx
  rw[hs,← append_assoc];rw[mem_append]at hx ⊢;rcases hx with hx | hx
  ·exact Or.inl (b.ps x hx)
  ·exact Or.inr hx
 ·have:=b.ou
  unfold outs at this ⊢;simp only[map_append,this,take_zero,append_nil,map_cons,map_nil]
 ·intro c hc
  rw[mem_append,mem_singleton]at hc;rcases hc with hc | rfl
  ·exact b.ce c hc
  ·refine Or.inl ⟨hst,ok,fun x hx=> ?_⟩
   exact (b.cnt x (b.ps x (hi x hx))).2
 ·intro c hc x hx
  rw[hs,← append_assoc,mem_append];rw[mem_append,mem_singleton]at hc;rcases hc with hc | rfl
  ·exact Or.inl (b.ci c hc x hx)
  ·exact Or.inl (b.ps x (hi x hx))
 ·have:=b.nm
  simp only[stNames_app,this,range_zero,map_nil,nil_append];unfold zu;simp[hst]
 ·intro x hx
  rw[hs,← append_assoc,mem_append];exact Or.inl (b.oo x hx)
theorem BInv.state{N:NL}{P S CO:List Int}{t:Nat}(b:BInv N P S CO t){k:Nm}{ins:List Int}{p:AV}{o:Int}(ok:StOk k ins.length p)(hp:pname p=qn t)(hi:∀ x∈ins,x∈srcs N++S++CO)(ho:S[t]? =some o):
  BInv { N with cells:=N.cells++[⟨k,o,ins,p⟩] } P S CO (t+1):=by
 have hs:srcs { N with cells:=N.cells++[⟨k,o,ins,p⟩] }=srcs N:=rfl
 have hst:=stOk_st ok;have hl:=(gS.mp ho).1;refine⟨b.cnt,b.nd,b.two,b.inl,b.ins,b.sl,by omega,b.cl,b.ps,b.p1,b.p2,?_,?_,?_,?_,b.oo,b.ol,b.op⟩
 ·have:=b.ou
  unfold outs at this ⊢;rw[zv ho];simp only[map_append,this,map_cons,map_nil,append_assoc]
 ·intro c hc
  rw[mem_append,mem_singleton]at hc;rcases hc with hc | rfl
  ·exact b.ce c hc
  ·exact Or.inr ⟨hst,ok⟩
 ·intro c hc x hx
  rw[mem_append,mem_singleton]at hc;rcases hc with hc | rfl
  ·exact b.ci c hc x hx
  ·exact hi x hx
 ·have:=b.nm
  simp only[stNames_app,this];rw[range_succ,map_append];unfold zu;simp[hst,hp]
theorem BInv.out{N:NL}{P S CO:List Int}{t:Nat}(b:BInv N P S CO t){p:Port}(hi:∀ x∈p.2,x∈P)(hl:p.2.length≤3)(ho:N.outputs.length<2):BInv { N with outputs:=N.outputs++[p] } P S CO t:=by
 refine⟨b.cnt,b.nd,b.two,b.inl,b.ins,b.sl,b.tl,b.cl,b.ps,b.p1,b.p2,b.ou,b.ce,b.ci,b.nm,?_,by simp;omega,?_⟩
 ·intro x hx
  unfold zd at hx;simp only[flatMap_append,flatMap_cons,flatMap_nil,append_nil,mem_append]at hx;rcases hx with hx | hx
  ·exact b.oo x hx
  ·exact b.ps x (hi x hx)
 ·intro q hq
  rw[mem_append,mem_singleton]at hq;rcases hq with hq | rfl
  ·exact b.op q hq
  ·exact hl
theorem BInv.good{N:NL}{P S CO:List Int}(b:BInv N P S CO S.length):Good N:=by
 have ho:outs N=CO++S:=by rw[b.ou,take_length]
 have hmem:∀ x,x∈srcs N++S++CO↔x∈srcs N++outs N:=by
  intro x;rw[ho];simp only[mem_append];constructor
  ·rintro ((h | h) | h)
   ·exact Or.inl h
   ·exact Or.inr (Or.inr h)
   ·exact Or.inr (Or.inl h)
  ·rintro (h | h | h)
   ·exact Or.inl (Or.inl h)
   ·exact Or.inr h
   ·exact Or.inl (Or.inr h)
 have hlen:N.cells.length=CO.length+S.length:=by
  have:(outs N).length=N.cells.length:=length_map _;rw[ho,length_append]at this;exact this.symm
 have hsl:=b.sl;have hcl:=b.cl;have hnl:(zd N.inputs).length≤4:=by
  have h1:=b.inl;have h2:=b.ins;match hN:N.inputs with
  | [a,c]=>
   rw[hN]at h2;have:=h2 a (by simp)
   have:=h2 c (by simp)
   unfold zd;simp;omega
  | []=>rw[hN]at h1;simp at h1
  | [_]=>rw[hN]at h1;simp at h1
  | _::_::_::_=>rw[hN]at h1;simp at h1
 refine⟨⟨by have:=b.inl;omega,by have:=b.ol;omega,by omega,fun p hp=>by have:=b.ins p hp;omega,fun p hp=>by have:=b.op p hp;omega,fun c hc=> ?_⟩,?_,fun c hc hk=> ?_,fun c hc hk=> ?_,fun c hc x hx=>(hmem x).mp (b.ci c hc x hx),fun x hx=>(hmem x).mp (b.oo x hx),fun x hx=>(b.cnt x ((hmem x).mpr hx)).1,?_,?_,?_⟩
 ·rcases b.ce c hc with⟨_,h,_⟩ | ⟨_,h⟩
  ·have:=combOk_len h;omega
  ·have:=stOk_len h;omega
 ·have:List.Perm (srcs N++S++CO) (srcs N++outs N):=by
   rw[ho,append_assoc];exact List.Perm.append_left _ List.perm_append_comm
  exact this.nodup_iff.mp b.nd
 ·rcases b.ce c hc with⟨_,h,_⟩ | ⟨h,_⟩
  ·exact h
  ·rw[hk]at h;cases h
 ·rcases b.ce c hc with⟨h,_,_⟩ | ⟨_,h⟩
  ·rw[hk]at h;cases h
  ·exact h
 ·refine⟨Int.toNat,fun c hc hk d hd hk2 hin=> ?_⟩
  rcases b.ce c hc with⟨_,_,h⟩ | ⟨h,_⟩
  ·have h1:=h _ hin
   have h2:=b.ci c hc _ hin;have:=(b.cnt _ h2).1;omega
  ·rw[hk]at h;cases h
 ·rw[b.nm]
  match hS:S.length,hsl with
  | 0,_=>simp
  | 1,_=>decide
  | 2,_=>decide
 ·rw[b.nm,length_map,length_range];omega
theorem Good.rk{N:NL}(g:Good N):∃ rk:Nat→Nat,∀ i∈combs N.cells,∀ b∈pre N.cells i,rk b<rk i:=by
 obtain⟨rank,hr⟩:=g.acyc;refine⟨fun i=>rank (cA N.cells i).out,fun i hi b hb=> ?_⟩
 have hbc:=pre_comb hb;unfold combs at hi hbc;rw[mem_filter,mem_range]at hi hbc;unfold pre at hb;rw[mem_filterMap]at hb;obtain⟨x,hx,e⟩:=hb;have hout:(cA N.cells b).out=x:=by
  unfold pre1 at e;split at e
  ·rename_i b' hb'
   split at e
   ·cases e
   ·cases e
    unfold drvs at hb';obtain⟨hl,h1,_⟩:=findIdx?_eq_some_iff_getElem.mp hb';rw[cA_get (getElem?_eq_getElem hl)];simpa using h1
  ·cases e
 exact hr _ (cA_mem hi.1) (by simpa using hi.2) _ (cA_mem hbc.1) (by simpa using hbc.2) (by rw[hout];exact hx)
theorem HandAt.of{h h':Hp}{r:Nat}(q:HandAt h r)(k:∀ k o,k≤r→h[k]? =some o→h'[k]? =some o):HandAt h' r:=by
 obtain⟨c,xs,i,d,s,z,a,b,e⟩:=q;exact⟨c,xs,i,d,s,z,k _ _ (Nat.le_refl _) a,k _ _ (by omega) b,e⟩
structure ST0(H:Hp)(r L:Nat)(h:Hp)(N:NL):Prop where
 net:NetA h L N
 hand:HandAt h r
 fr:∀ k o,k≠r→H[k]? =some o→h[k]? =some o
 rl:r<L
 hl:H.length≤L
def Fx(L:Nat)(h h':Hp):Prop:=∀ k o,L+4<k→h[k]? =some o→h'[k]? =some o
theorem Fx.trans{L:Nat}{a b c:Hp}(x:Fx L a b)(y:Fx L b c):Fx L a c:=fun k o q e=>y k o q (x k o q e)
theorem Fx.refl{L:Nat}{a:Hp}:Fx L a a:=fun _ _ _ e=>e
theorem Fx.push{L:Nat}{a T:Hp}:Fx L a (a++T):=fun k o _ e=>Keep.push _ _ k o e
theorem ST0.len{H h:Hp}{r L:Nat}{N:NL}(s:ST0 H r L h N):L+4<h.length:=(gS.mp s.net.cel).1
theorem ST0.push{H h T:Hp}{r L:Nat}{N:NL}(s:ST0 H r L h N):ST0 H r L (h++T) N:=
 ⟨s.net.keep (Keep.push _ _),s.hand.of fun k o _ e=>Keep.push _ _ k o e,fun k o q e=>Keep.push _ _ k o (s.fr k o q e),s.rl,s.hl⟩
theorem ST0.hs{H h:Hp}{r L:Nat}{N:NL}{o:AO}(s:ST0 H r L h N)(hh:HandAt (h.set r o) r):ST0 H r L (h.set r o) N∧Fx L h (h.set r o):=
 ⟨⟨s.net.set s.rl,hh,fun k o q e=>by rw[getElem?_set_ne (fun e=>q e.symm)];exact s.fr k o q e,s.rl,s.hl⟩,fun k o q e=>by rw[getElem?_set_ne (by have:=s.rl;omega)];exact e⟩
theorem ST0.kx{H h h':Hp}{r L:Nat}{N N':NL}(s:ST0 H r L h N)(k:Kx L h h')(n:NetA h' L N'):ST0 H r L h' N'∧Fx L h h':=
 ⟨⟨n,s.hand.of fun i o hi e=>k i o (by have:=s.rl;omega) e,fun i o q e=>k i o (by have:=(gS.mp e).1;have:=s.hl;omega) (s.fr i o q e),s.rl,s.hl⟩,fun i o q e=>k i o (by omega) e⟩
structure Cl4(cl:Caller):Prop where
 pick:∀ {r lim:Nat} {h:Hp},HandAt h r→1≤lim→lim≤1000→∃ (v:Nat) (o:AO),cl 40 [.ref r,.int lim] h=some (.int v,h.set r o)∧v<lim∧HandAt (h.set r o) r
 near:∀ {r pl:Nat} {h:Hp} {P0:List Int},HandAt h r→h[pl]? =some (.list (za P0))→pl≠r→1≤P0.length→P0.length≤1000→∃ (x:Int) (o:AO),cl 42 [.ref r,.ref pl] h=some (.int x,h.set r o)∧x∈P0∧HandAt (h.set r o) r
 init:∀ {nm:Nm} {H:Hp},cl 0 [.ref (H.length+1),.str nm] (H++[.dict [],.inst H.length])=some (.none,H++[.dict (netD H.length ⟨nm,2,[],[],[]⟩),.inst H.length,.list [],.list [],.list []])
 nets:∀ {L w:Nat} {N:NL} {h:Hp},NetA h L N→w≤1000→L+4<h.length→∃ h',cl 3 [.ref (L+1),.int w] h=some (.ref h'.length,h'++[.list (za (zc N.count w))])∧NetA h' L { N with count:=N.count+w }∧Kx L h h'∧h'.length=h.length
 inp:∀ {L w:Nat} {N:NL} {nm:Nm} {h:Hp},NetA h L N→w≤1000→L+4<h.length→N.inputs.length≤1000→∃ a h',cl 4 [.ref (L+1),.str nm,.int w] h=some (.ref a,h')∧NetA h' L { N with count:=N.count+w,inputs:=N.inputs++[(nm,zc N.count w)] }∧Kx L h h'∧h'[a]? =some (.list (za (zc N.count w)))∧L+4<a∧h.length≤h'.length
 cell:∀ {L a:Nat} {N:NL} {k:Nm} {ins:List Int} {p:AV} {h:Hp},NetA h L N→h[a]? =some (.list (za ins))→L+4<a→N.cells.length≤1000→∃ h',cl 6 [.ref (L+1),.str k,.ref a,p] h=some (.int N.count,h')∧NetA h' L { N with count:=N.count+1,cells:=N.cells++[⟨k,N.count,ins,p⟩] }∧Kx L h h'∧h'.length=h.length
 drive:∀ {L a:Nat} {N:NL} {h:Hp} {out:Int} {k:Nm} {ins:List Int} {p:AV},NetA h L N→h[a]? =some (.list (za ins))→N.cells.length≤1000→cl 7 [.ref (L+1),.int out,.str k,.ref a,p] h=some (.none,h.set (L+4) (.list (N.cells.map Cell.v++[Cell.v ⟨k,out,ins,p⟩])))
 outp:∀ {L a:Nat} {N:NL} {h:Hp} {nm:Nm} {nets:List Int},NetA h L N→h[a]? =some (.list (za nets))→L+4<h.length→N.outputs.length≤1000→∃ h',cl 5 [.ref (L+1),.str nm,.ref a] h=some (.none,h')∧NetA h' L { N with outputs:=N.outputs++[(nm,nets)] }∧Kx L h h'∧h.length≤h'.length
theorem cl4{W n:Nat}:Cl4 (callF P W (n+3)):=
 ⟨fun a b c=>pick_s (n:=n+2) a b c,fun a b c d e=>near_s (n:=n+1) a b c d e,init_s (n:=n+2),fun a b c=>new_nets_s (n:=n+1) a b c,fun a b c d=>add_input_s (n:=n) a b c d,fun a b c d=>add_cell_s (n:=n+1) a b c d,fun a b c=>drive_s (n:=n+2) a b c,fun a b c d=>add_output_s (n:=n+2) a b c d⟩
theorem ST0.pick{H h:Hp}{r L lim:Nat}{cl:Caller}{N:NL}{es:List E}{m c:Loc}{z:Int}(s:ST0 H r L h N)(K:Cl4 cl)(hz:z=(lim:Int))(h1:1≤lim)(h2:lim≤1000)(e:evL cl es m c h=some ([.ref r,.int z],h)):
  ∃ (v:Nat) (h':Hp),evE cl (.call 40 es) m c h=some (.int v,h')∧v<lim∧ST0 H r L h' N∧Fx L h h'∧h'.length=h.length∧(∀ k,k≠r→h'[k]? =h[k]?):=by
 subst hz;obtain⟨v,o,a,b,c⟩:=K.pick (lim:=lim) s.hand h1 h2;obtain⟨d,f⟩:=s.hs c;exact⟨v,_,zi e a,b,d,f,by rw[length_set],fun k hk=>by rw[getElem?_set_ne (fun e=>hk e.symm)]⟩
theorem ST0.near{H h:Hp}{r L pl:Nat}{cl:Caller}{N:NL}{es:List E}{m c:Loc}{Q:List Int}(s:ST0 H r L h N)(K:Cl4 cl)(hp:h[pl]? =some (.list (za Q)))(hl:L+4<pl)(h1:1≤Q.length)(h2:Q.length≤1000)(e:evL cl es m c h=some ([.ref r,.ref pl],h)):
  ∃ (x:Int) (h':Hp),evE cl (.call 42 es) m c h=some (.int x,h')∧x∈Q∧ST0 H r L h' N∧Fx L h h'∧h'.length=h.length:=by
 obtain⟨v,o,a,b,c⟩:=K.near s.hand hp (by have:=s.rl;omega) h1 h2
 obtain⟨d,f⟩:=s.hs c;exact⟨v,_,zi e a,b,d,f,by rw[length_set]⟩
theorem ST0.choice{H h:Hp}{r L pl:Nat}{cl:Caller}{N:NL}{es es2:List E}{m c:Loc}{Q:List Int}{z:Int}(s:ST0 H r L h N)(K:Cl4 cl)(hp:h[pl]? =some (.list (za Q)))(hl:L+4<pl)(h1:1≤Q.length)(h2:Q.length≤1000)(e:∀ h,evL cl es m c h=some ([.ref r,.int 3],h))(e2:∀ h,evL cl es2 m c h=some ([.ref r,.ref pl],h)):
  ∃ (x:Int) (h':Hp),evE cl (.ite (.cmp .eq (.call 40 es) (.const (.int 2))) (.call 42 es2) (.const (.int z))) m c h=some (.int x,h')∧(x∈Q∨x=z)∧ST0 H r L h' N∧Fx L h h'∧h'.length=h.length:=by
 obtain⟨v,h1',a1,a2,a3,a4,a5,a6⟩:=s.pick K (lim:=3) (z:=3) (m:=m) (c:=c) rfl (by omega) (by omega) (e h)
 by_cases hv:(v:Int)=2
 ·obtain⟨x,h2',b1,b2,b3,b4,b5⟩:=a3.near K (m:=m) (c:=c) (a4 _ _ hl hp) hl h1 h2 (e2 h1')
  refine⟨x,h2',?_,Or.inl b2,b3,a4.trans b4,by omega⟩
  rw[QX.2.2.2.2.2.2.2.2.2.2.2.2.2.2.2.2.1,QX.2.2.2.2.2.2.2.2.2.2.2.2.2.2.2.1];rw[a1,Option.bind_some,QX.1,Option.bind_some];simp only[QX,hv];rw[← QX.2.2.2.2.2.2.2.2.2.2.2.2.2.2.2.2.2.2.2.2.2.2.1];exact b1
 ·refine⟨z,h1',?_,Or.inr rfl,a3,a4,a5⟩
  rw[QX.2.2.2.2.2.2.2.2.2.2.2.2.2.2.2.2.1,QX.2.2.2.2.2.2.2.2.2.2.2.2.2.2.2.1];rw[a1,Option.bind_some,QX.1,Option.bind_some];simp only[QX,hv]
theorem ST0.comp{H h h1:Hp}{r L pl w:Nat}{cl:Caller}{N:NL}{it e:E}{m:Loc}{Q:List Int}{R:Int→Prop}(s:ST0 H r L h1 N)(f0:Fx L h h1)(g0:h.length≤h1.length)(hw:w≤1000)(e1:evE cl it m [] h=some (.int w,h1))(hp:h1[pl]? =some (.list (za Q)))(hl:L+4<pl)
  (hs:∀ j h,ST0 H r L h N→h[pl]? =some (.list (za Q))→∃ x h',evE cl e m [some (.int j)] h=some (.int x,h')∧R x∧ST0 H r L h' N∧Fx L h h'∧h'.length=h.length):
  ∃ a xs h',evE cl (.comp 1 (.one 0) true it (.elt e)) m [] h=some (.ref a,h')∧xs.length=w∧(∀ x∈xs,R x)∧ST0 H r L h' N∧Fx L h h'∧h'[a]? =some (.list (za xs))∧h.length≤h'.length∧L+4<a:=by
 obtain⟨xs,h',a1,a2,a3,a4,a5,a6⟩:=comp_ints (cl:=cl) (m:=m) (h:=h) (h1:=h1) (it:=it) (e:=e) (w:=w) (fun j h'=>ST0 H r L h' N∧Fx L h1 h'∧h'.length=h1.length) (fun _ x=>R x) e1 hw ⟨s,Fx.refl,rfl⟩ (fun j h2 hj ⟨b1,b2,b3⟩=>by
  obtain⟨x,h',c1,c2,c3,c4,c5⟩:=hs j h2 b1 (b2 _ _ hl hp);exact⟨x,h',c1,c2,c3,b2.trans c4,by omega⟩)
 refine⟨h'.length,xs,_,a1,a2,fun x hx=> ?_,a4.push,(f0.trans a5).trans Fx.push,ze,by simp;omega,a4.len⟩
 obtain⟨j,hj⟩:=getElem?_of_mem hx;exact a3 j x hj
theorem add_lists{h:Hp}{a b:Nat}{xs ys:List Int}(ha:h[a]? =some (.list (za xs)))(hb:h[b]? =some (.list (za ys)))(hl:xs.length+ys.length≤1000):binV h .add (.ref a) (.ref b)=some (.ref h.length,h++[.list (za (xs++ys))]):=by
 unfold binV;simp only[ha,hb];rw[if_pos (by rw[zk,zk];exact zp hl),intsV_app]
theorem ST0.input{H h:Hp}{r L:Nat}{cl:Caller}{N:NL}{nm:Nm}{m:Loc}(s:ST0 H r L h N)(K:Cl4 cl)(hi:N.inputs.length≤100)(l0:∀ h,locG m 0 h=some (.ref r,h))(l4:∀ h,locG m 4 h=some (.ref (L+1),h)):
  ∃ (a:Nat) (h':Hp) (w:Nat),evE cl (.meth (.loc 4) 4 [(.const (.str nm)),(.bin .add (.const (.int 1)) (.call 40 [(.loc 0),(.const (.int 2))]))]) m [] h=some (.ref a,h')∧1≤w∧w≤2∧ST0 H r L h' { N with count:=N.count+w,inputs:=N.inputs++[(nm,zc N.count w)] }∧h'[a]? =some (.list (za (zc N.count w)))∧L+4<a∧Fx L h h'∧h.length≤h'.length:=by
 obtain⟨v,h1,a1,a2,a3,a4,a5,a6⟩:=s.pick K (lim:=2) (z:=2) (m:=m) (c:=[]) (es:=[(.loc 0),(.const (.int 2))]) rfl (by omega) (by omega) (by simp only[QX,l0])
 obtain⟨a,h2,b1,b2,b3,b4,b5,b6⟩:=K.inp (w:=1+v) (nm:=nm) a3.net (by omega) a3.len (by omega)
 obtain⟨c1,c2⟩:=a3.kx b3 b2;refine⟨a,h2,1+v,evE_meth (a:=L+1) (h1:=h) (vs:=[.str nm,.int (1+v:Nat)]) (h2:=h1) (by simp only[QX,l4]) s.net.okI ?_ b1,by omega,by omega,c1,b4,b5,a4.trans c2,by omega⟩
 rw[QX.2.2.2.2.2.2.2.2.2.2.2.2.2.2.2.2.2.2.2.2.2.2.2.2.2.2.1];simp only[QX.1,Option.bind_some];rw[QX.2.2.2.2.2.2.2.2.2.2.2.2.2.2.2.2.2.2.2.2.2.2.2.2.2.2.1,QX.2.2.2.2.2.2.2.2.2.2.2.2.1];simp only[QX.1,Option.bind_some];rw[a1];simp only[Option.bind_some,QX];rfl
theorem res_strs{h:Hp}{n:Nat}(l:List Nm):(l.map AV.str).mapM (res h (n+1))=some (l.map D.str):=by
 induction l with
 | nil=>rfl
 | cons a l ih=>
  rw[map_cons,List.mapM_cons,ih];rfl
theorem anyEq_str{h:Hp}{x:Nm}{l:List Nm}:anyEq h (.str x) (l.map AV.str)=some (decide (x∈l)):=by
 unfold anyEq;rw[show eqFuel=23+1 from rfl,res_strs];simp only[res];congr 1
 rw[decide_eq_decide];constructor
 ·intro q
  obtain⟨y,hy,e⟩:=mem_map.mp q;cases e;exact hy
 ·intro q
  exact mem_map.mpr ⟨x,q,rfl⟩
theorem in_strs{cl:Caller}{e:E}{es:List E}{m c:Loc}{h:Hp}{k:Nm}{l:List Nm}(e1:evE cl e m c h=some (.str k,h))(e2:evL cl es m c h=some (l.map AV.str,h)):evE cl (.cmp .in_ e (.list es)) m c h=some (.bool (decide (k∈l)),h++[.list (l.map AV.str)]):=by
 have:containsV (h++[.list (l.map AV.str)]) (.str k) (.ref h.length)=some (decide (k∈l)):=by
  unfold containsV;simp only[zE];exact anyEq_str
 rw[QX.2.2.2.2.2.2.2.2.2.2.2.2.2.2.2.1,e1,Option.bind_some,QX.2.2.2.2.2.2.2.2.2.2.2.2.2.2.2.2.2.2.1,e2];simp only[Option.map_some,QX,this]
theorem notin_strs{cl:Caller}{e:E}{es:List E}{m c:Loc}{h:Hp}{k:Nm}{l:List Nm}(e1:evE cl e m c h=some (.str k,h))(e2:evL cl es m c h=some (l.map AV.str,h)):evE cl (.cmp .notIn e (.list es)) m c h=some (.bool (!decide (k∈l)),h++[.list (l.map AV.str)]):=by
 have:containsV (h++[.list (l.map AV.str)]) (.str k) (.ref h.length)=some (decide (k∈l)):=by
  unfold containsV;simp only[zE];exact anyEq_str
 rw[QX.2.2.2.2.2.2.2.2.2.2.2.2.2.2.2.1,e1,Option.bind_some,QX.2.2.2.2.2.2.2.2.2.2.2.2.2.2.2.2.2.2.1,e2];simp only[Option.map_some,QX,this]
def kindsL:List Nm:=[kAnd,kNot,kMux,kXor,kOr,kBuf,kLut,kNand,kNor,kXnor,kCell]
def wide0(k:Nm):Nat:=if k=kNot then 1 else if k=kBuf then 1 else if k=kMux then 3 else 2
def nA:Nm:=[97]
def nB:Nm:=[98]
def nM:Nm:=[109]
theorem pool0_s{H:Hp}{r:Nat}{cl:Caller}{m:Loc}(K:Cl4 cl)(hH:HandAt H r)(hr:r<H.length)(l0:∀ h,locG m 0 h=some (.ref r,h))(l4:∀ h,locG m 4 h=some (.ref (H.length+1),h)):
  ∃ (pl:Nat) (h':Hp) (N:NL) (Q:List Int),evE cl (.bin .add (.bin .add (.list [(.const (.int 0)),(.const (.int 1))]) (.meth (.loc 4) 4 [(.const (.str nA)),(.bin .add (.const (.int 1)) (.call 40 [(.loc 0),(.const (.int 2))]))])) (.meth (.loc 4) 4 [(.const (.str nB)),(.bin .add (.const (.int 1)) (.call 40 [(.loc 0),(.const (.int 2))]))])) m [] (H++[.dict (netD H.length ⟨nM,2,[],[],[]⟩),.inst H.length,.list [],.list [],.list []])=some (.ref pl,h')∧
   ST0 H r H.length h' N∧h'[pl]? =some (.list (za Q))∧H.length+4<pl∧N.count=2+(zd N.inputs).length∧zd N.inputs=zc 2 (zd N.inputs).length∧Q=[0,1]++zd N.inputs∧N.outputs=[]∧N.cells=[]∧N.inputs.length=2∧(∀ p∈N.inputs,1≤p.2.length∧p.2.length≤2):=by
 have s0:ST0 H r H.length (H++[.dict (netD H.length ⟨nM,2,[],[],[]⟩),.inst H.length,.list [],.list [],.list []]) ⟨nM,2,[],[],[]⟩:=
  ⟨NetA.new,hH.of fun k o _ e=>Keep.push _ _ k o e,fun k o _ e=>Keep.push _ _ k o e,hr,Nat.le_refl _⟩
 generalize H++[AO.dict (netD H.length ⟨nM,2,[],[],[]⟩),AO.inst H.length,AO.list [],AO.list [],AO.list []]=h0 at *;have s1:=s0.push (T:=[.list (za [0,1])]);have g1:(h0++[AO.list (za [0,1])])[h0.length]? =some (.list (za [0,1])):=ze;have b1:=s0.len;obtain⟨a,h2,w,c1,c2,c3,c4,c5,c6,c7,c8⟩:=s1.input K (nm:=nA) (m:=m) (by simp) l0 l4
 have g2:=c7 _ _ b1 g1;have d1:=add_lists g2 c5 (by simp[zc];omega)
 have s2:=c4.push (T:=[.list (za ([0,1]++zc 2 w))]);have g3:(h2++[AO.list (za ([0,1]++zc 2 w))])[h2.length]? =some (.list (za ([0,1]++zc 2 w))):=ze;have b2:=c4.len;simp only at d1 c4 s2;obtain⟨a2,h3,w2,e1,e2,e3,e4,e5,e6,e7,e8⟩:=s2.input K (nm:=nB) (m:=m) (by simp) l0 l4
 simp only at e4 e5;have g4:=e7 _ _ b2 g3;have d2:=add_lists g4 e5 (by simp[zc];omega)
 have hev:evE cl (.list [(.const (.int 0)),(.const (.int 1))]) m [] h0=some (.ref h0.length,h0++[.list (za [0,1])]):=by simp only[QX];rfl
 refine⟨h3.length,_,_,[0,1]++zc 2 w++zc (2+w) w2,?_,e4.push,zE _ _,e4.len,?_,?_,?_,rfl,rfl,rfl,?_⟩
 ·rw[QX.2.2.2.2.2.2.2.2.2.2.2.2.1,QX.2.2.2.2.2.2.2.2.2.2.2.2.1,hev,Option.bind_some,c1,Option.bind_some,d1,Option.bind_some,e1,Option.bind_some,d2]
 ·simp[zd,zc];omega
 ·simp only[zd,nil_append,cons_append,flatMap_cons,flatMap_nil,append_nil]
  apply List.ext_getElem?
  intro j;unfold zc;rw[getElem?_append];simp only[length_map,length_range,length_append,getElem?_map];split
  ·rw[getElem?_range (by omega),getElem?_range (by omega)]
  ·by_cases hj:j<w+w2
   ·rw[getElem?_range (by omega),getElem?_range hj]
    simp only[Option.map_some];congr 1;omega
   ·rw[getElem?_eq_none (by simp;omega),getElem?_eq_none (by simp;omega)];rfl
 ·simp[zd]
 ·intro p hp
  simp only[nil_append,cons_append,mem_cons,not_mem_nil,or_false]at hp;rcases hp with rfl | rfl<;>(simp[zc];omega)
theorem zm{cl:Caller}{e:E}{es:List E}{m c:Loc}{h h1 h2:Hp}{v:AV}{vs:List AV}(e1:evE cl e m c h=some (v,h1))(e2:evL cl es m c h1=some (vs,h2)):evL cl (e::es) m c h=some (v::vs,h2):=by
 rw[QX.2.2.2.2.2.2.2.2.2.2.2.2.2.2.2.2.2.2.2.2.2.2.2.2.2.2.1,e1,Option.bind_some,e2];rfl
theorem evL_nil{cl:Caller}{m c:Loc}{h:Hp}:evL cl [] m c h=some ([],h):=by rw[evL]
theorem evE_bin{cl:Caller}{o:Op}{a b:E}{m c:Loc}{h h1 h2:Hp}{x y:AV}{r:Option (AV × Hp)}(e1:evE cl a m c h=some (x,h1))(e2:evE cl b m c h1=some (y,h2))(e3:binV h2 o x y=r):evE cl (.bin o a b) m c h=r:=by
 rw[QX.2.2.2.2.2.2.2.2.2.2.2.2.1,e1,Option.bind_some,e2];exact e3
theorem evE_cmp{cl:Caller}{o:Cmp}{a b:E}{m c:Loc}{h h1 h2:Hp}{x y:AV}{r:Bool}(e1:evE cl a m c h=some (x,h1))(e2:evE cl b m c h1=some (y,h2))(e3:cmpV h2 o x y=some r):evE cl (.cmp o a b) m c h=some (.bool r,h2):=by
 rw[QX.2.2.2.2.2.2.2.2.2.2.2.2.2.2.2.1,e1,Option.bind_some,e2];simp only[Option.bind_some,e3,Option.map_some]
theorem evE_sub{cl:Caller}{a b:E}{m c:Loc}{h h1 h2:Hp}{x y v:AV}(e1:evE cl a m c h=some (x,h1))(e2:evE cl b m c h1=some (y,h2))(e3:subV h2 x y=some v):evE cl (.sub a b) m c h=some (v,h2):=by
 rw[QX.2.2.2.2.2.2.2.2.2.2.2.2.2.2.2.2.2.2.2.2.2.1,e1,Option.bind_some,e2];simp only[Option.bind_some,e3,Option.map_some]
theorem evE_tup{cl:Caller}{es:List E}{m c:Loc}{h h1:Hp}{vs:List AV}(e1:evL cl es m c h=some (vs,h1)):evE cl (.tup es) m c h=some (.tup vs,h1):=by
 rw[QX.2.2.2.2.2.2.2.2.2.2.2.2.2.2.2.2.2.1,e1];rfl
theorem evE_list{cl:Caller}{es:List E}{m c:Loc}{h h1:Hp}{vs:List AV}(e1:evL cl es m c h=some (vs,h1)):evE cl (.list es) m c h=some (.ref h1.length,h1++[.list vs]):=by
 rw[QX.2.2.2.2.2.2.2.2.2.2.2.2.2.2.2.2.2.2.1,e1];rfl
theorem evE_bi{cl:Caller}{b:BI}{es:List E}{m c:Loc}{h h1:Hp}{vs:List AV}{r:Option (AV × Hp)}(e1:evL cl es m c h=some (vs,h1))(e2:biV h1 b vs=r):evE cl (.bi b es) m c h=r:=by
 rw[QX.2.2.2.2.2.2.2.2.2.2.2.2.2.2.2.2.2.2.2.2.2.2.2.1,e1];exact e2
theorem strInt_len(i:Int):(strInt i).length≤3:=by unfold strInt;(repeat' split)<;>simp
theorem bi_str{h:Hp}{t:Nat}(ht:t<256):biV h .str [.int t]=some (.str (strInt t),h):=by
 unfold biV;simp only;rw[if_pos (by unfold strLid;omega)]
theorem str_add{h:Hp}{a b:Nm}(hl:a.length+b.length≤1000):binV h .add (.str a) (.str b)=some (.str (a++b),h):=by
 unfold binV;simp only;rw[if_pos (zp hl)]
theorem wide0_s:∀ k∈kindsL,(dfind (dictOfPairs [(.str kNot,.int 1),(.str kBuf,.int 1),(.str kMux,.int 3)]) (.str k)).getD (.int 2)= .int (wide0 k:Nat):=by
 intro k hk;unfold kindsL at hk;simp only[mem_cons,not_mem_nil,or_false]at hk;rcases hk with rfl | rfl | rfl | rfl | rfl | rfl | rfl | rfl | rfl | rfl | rfl<;>rfl
theorem wide0_ok{k:Nm}(hk:k∈kindsL)(h:k∉[kLut,kCell]):CombOk k (wide0 k) .none:=by
 unfold kindsL at hk;simp only[mem_cons,not_mem_nil,or_false]at hk h;rcases hk with rfl | rfl | rfl | rfl | rfl | rfl | rfl | rfl | rfl | rfl | rfl;case inr.inl=>exact CombOk.not
 case inr.inr.inl=>exact CombOk.mux
 case inr.inr.inr.inr.inr.inl=>exact CombOk.buf
 case inr.inr.inr.inr.inr.inr.inl=>exact absurd (Or.inl rfl) h
 case inr.inr.inr.inr.inr.inr.inr.inr.inr.inr=>exact absurd (Or.inr rfl) h
 all_goals exact CombOk.gate _ (by decide)
theorem pow2_s:∀ w:Nat,1≤w→w≤3→intOp .pow 2 (w:Int)=some ((2 ^ w:Nat):Int)∧intOp .pow 2 ((2 ^ w:Nat):Int)=some ((2 ^ 2 ^ w:Nat):Int)∧1≤2 ^ 2 ^ w∧2 ^ 2 ^ w≤256:=by
 intro w h1 h2;have:w=1∨w=2∨w=3:=by omega
 rcases this with rfl | rfl | rfl<;>exact ⟨rfl,rfl,by decide,by decide⟩
theorem NetA.setPool{h:Hp}{L pl:Nat}{N:NL}{Q:List Int}{o:AO}(q:NetA h L N)(hp:h[pl]? =some (.list (za Q)))(hl:L+4<pl)(h4:4≤Q.length)(hi:∀ p∈N.inputs,p.2.length≤3)(ho:∀ p∈N.outputs,p.2.length≤3):NetA (h.set pl o) L N:=by
 have key:∀ (a:Nat) (l:List Int),l.length≤3→h[a]? =some (.list (za l))→(h.set pl o)[a]? =some (.list (za l)):=by
  intro a l hl e;rw[getElem?_set_ne]
  ·exact e
  ·intro e2
   subst e2;rw[hp]at e;have:(za Q).length=(za l).length:=by injection e with e;injection e with e;rw[e]
   rw[zk,zk]at this;omega
 obtain⟨d1,d2,⟨vi,d3,d4⟩,⟨vo,d5,d6⟩,d7⟩:=q;refine⟨?_,?_,⟨vi,?_,d4.1,fun j p' e=> ?_⟩,⟨vo,?_,d6.1,fun j p' e=> ?_⟩,?_⟩
 ·rw[getElem?_set_ne (by omega)];exact d1
 ·rw[getElem?_set_ne (by omega)];exact d2
 ·rw[getElem?_set_ne (by omega)];exact d3
 ·obtain⟨a',e1,e2,e3⟩:=d4.2 j p' e
  exact⟨a',e1,e2,key _ _ (hi _ (mem_of_getElem? e)) e3⟩
 ·rw[getElem?_set_ne (by omega)];exact d5
 ·obtain⟨a',e1,e2,e3⟩:=d6.2 j p' e
  exact⟨a',e1,e2,key _ _ (ho _ (mem_of_getElem? e)) e3⟩
 ·rw[getElem?_set_ne (by omega)];exact d7
theorem ST0.setPool{H h:Hp}{r L pl:Nat}{N:NL}{Q:List Int}{o:AO}(s:ST0 H r L h N)(hp:h[pl]? =some (.list (za Q)))(hl:L+4<pl)(h4:4≤Q.length)(hi:∀ p∈N.inputs,p.2.length≤3)(ho:∀ p∈N.outputs,p.2.length≤3):ST0 H r L (h.set pl o) N:=
 ⟨s.net.setPool hp hl h4 hi ho,s.hand.of fun i o hi e=>by rw[getElem?_set_ne (by have:=s.rl;omega)];exact e,fun i o q e=>by rw[getElem?_set_ne (by have:=(gS.mp e).1;have:=s.hl;omega)];exact s.fr i o q e,s.rl,s.hl⟩
theorem addcell_s{H h:Hp}{r L pl oa w:Nat}{cl:Caller}{N:NL}{m:Loc}{Q S CO:List Int}{k:Nm}{p:AV}(s:ST0 H r L h N)(K:Cl4 cl)(hp:h[pl]? =some (.list (za Q)))(ho:h[oa]? =some (.list (za S)))(hpl:L+4<pl)(hoa:L+4<oa)(hne:oa≠pl)(b:BInv N Q S CO 0)(hc:CO.length<10)(ok:CombOk k w p)
  (l0:∀ h,locG m 0 h=some (.ref r,h)) (l4:∀ h,locG m 4 h=some (.ref (L+1),h)) (l5:∀ h,locG m 5 h=some (.ref pl,h)) (l8:∀ h,locG m 8 h=some (.str k,h)) (l9:∀ h,locG m 9 h=some (.int w,h)) (l10:∀ h,locG m 10 h=some (p,h)):
  ∃ h' N' x,evE cl (.bm .append (.loc 5) [(.meth (.loc 4) 6 [(.loc 8),(.comp 1 (.one 0) true (.loc 9) (.elt (.call 42 [(.free 0),(.free 5)]))),(.loc 10)])]) m [] h=some (.none,h')∧ST0 H r L h' N'∧h'[pl]? =some (.list (za (Q++[x])))∧h'[oa]? =some (.list (za S))∧BInv N' (Q++[x]) S (CO++[x]) 0∧N'.outputs=N.outputs:=by
 have hw:=combOk_len ok;have h1:=b.p1;have h2:=b.p2;obtain⟨a,xs,h1',a1,a2,a3,a4,a5,a6,a7,a8⟩:=s.comp (w:=w) (m:=m) (it:= .loc 9) (e:= .call 42 [(.free 0),(.free 5)]) (Q:=Q) (R:=fun x=>x∈Q) Fx.refl (Nat.le_refl _) (by omega) (by simp only[QX,l9]) hp hpl (fun j h3 s3 g3=>s3.near K g3 hpl (by omega) (by omega) (by simp only[QX,l0,l5]))
 obtain⟨h2',b1,b2,b3,b4⟩:=K.cell (k:=k) (p:=p) a4.net a6 a8 (by
  have:N.cells.length=(outs N).length:=(length_map _).symm;rw[this,b.ou,length_append,length_take];have:=b.cl;have:=b.sl;omega)
 obtain⟨c1,c2⟩:=a4.kx b3 b2;have g1:=c2 _ _ hpl (a5 _ _ hpl hp);have g2:=c2 _ _ hoa (a5 _ _ hoa ho);have hx:(za Q)++[AV.int N.count]=za (Q++[N.count]):=by unfold za;simp
 have hm:evE cl (.meth (.loc 4) 6 [(.loc 8),(.comp 1 (.one 0) true (.loc 9) (.elt (.call 42 [(.free 0),(.free 5)]))),(.loc 10)]) m [] h=some (.int N.count,h2'):=
  evE_meth (a:=L+1) (h1:=h) (vs:=[.str k,.ref a,p]) (h2:=h1') (by simp only[QX,l4]) s.net.okI (zm (by simp only[QX,l8]) (zm a1 (zm (by simp only[QX,l10]) evL_nil))) b1
 have hap:=zM (cl:=cl) (o:= .loc 5) (m:=m) (c:=[]) (h:=h) (h1:=h) (a:=pl) (by simp only[QX,l5]) hp hm g1 (by rw[zk];omega)
 rw[hx]at hap;refine⟨_,_,N.count,hap,?_,zB _ _ _ (gS.mp g1).1,?_,b.comb (k:=k) (ins:=xs) (p:=p) (by rw[a2];exact ok) a3 hc,rfl⟩
 ·exact c1.setPool g1 hpl h1 (fun p hp=>by have:=b.ins p hp;omega) b.op
 ·rw[getElem?_set_ne (by omega)];exact g2
theorem tst_of'{cl:Caller}{a:E}{m:Loc}{h h1:Hp}{x:Bool}(e1:evE cl a m [] h=some (.bool x,h1)):tstE cl a m h=some (x,h1):=by
 unfold tstE;simp only[e1,Option.bind_eq_bind,Option.bind_some,truthy,Option.pure_def]
theorem netsFrom_mem{c x:Int}{w:Nat}:x∈zc c w↔c≤x∧x<c+w:=by
 unfold zc;rw[mem_map];constructor
 ·rintro⟨i,hi,rfl⟩
  rw[mem_range]at hi;omega
 ·rintro⟨h1,h2⟩
  exact⟨(x - c).toNat,by rw[mem_range];omega,by omega⟩
theorem netsFrom_nodup{c:Int}{w:Nat}:(zc c w).Nodup:=by
 unfold zc;unfold List.Nodup;rw[pairwise_map];exact nodup_range.imp (fun h e=>h (by omega))
theorem netsFrom_len{c:Int}{w:Nat}:(zc c w).length=w:=by unfold zc;simp
theorem drive_e{H h:Hp}{r L a oa t:Nat}{cl:Caller}{N:NL}{m:Loc}{S ins:List Int}{k:Nm}{o:Int}{pe:E}{p:AV}(s:ST0 H r L h N)(K:Cl4 cl)(ha:h[a]? =some (.list (za ins)))(ho:h[oa]? =some (.list (za S)))(hl:N.cells.length≤1000)(hS:S[t]? =some o)
  (l4:∀ h,locG m 4 h=some (.ref (L+1),h)) (l6:∀ h,locG m 6 h=some (.ref oa,h)) (l11:∀ h,locG m 11 h=some (.int t,h)) (l15:∀ h,locG m 15 h=some (.ref a,h)) (ep:evE cl pe m [] h=some (p,h)):
  ∃ h',evE cl (.meth (.loc 4) 7 [(.sub (.loc 6) (.loc 11)),(.const (.str k)),(.loc 15),pe]) m [] h=some (.none,h')∧ST0 H r L h' { N with cells:=N.cells++[⟨k,o,ins,p⟩] }∧Fx L h h':=by
 have d:=K.drive (out:=o) (k:=k) (p:=p) s.net ha hl;obtain⟨c1,c2⟩:=s.kx (Kx.set (by omega) (by omega)) (s.net.pushCell ⟨k,o,ins,p⟩)
 refine⟨_,evE_meth (a:=L+1) (h1:=h) (vs:=[.int o,.str k,.ref a,p]) (h2:=h) (by simp only[QX,l4]) s.net.okI (zm (h1:=h) ?_ (zm (h1:=h) (by simp only[QX]) (zm (h1:=h) (by simp only[QX,l15]) (zm ep evL_nil)))) d,c1,c2⟩
 have:(za S)[t]? =some (.int o):=by unfold za;rw[getElem?_map,hS];rfl
 simp only[QX,l6,l11,sub_list ho,this]
theorem netlist_s{n r kd:Nat}{H:Hp}(hH:HandAt H r)(hk:H[kd]? =some (.list (kindsL.map .str)))(hkr:kd≠r):∃ L h' N,callF P 1000 (n+4) 43 [.ref r,.int 10,.int 2,.ref kd] H=some (.ref (L+1),h')∧NetA h' L N∧Good N∧(∀ k o,k≠r→H[k]? =some o→h'[k]? =some o)∧H.length≤L:=by
 obtain⟨v,h',e,L,N,rfl,r1,r2,r3,r4⟩:∃ v h',callF P 1000 (n+4) 43 [.ref r,.int 10,.int 2,.ref kd] H=some (v,h')∧∃ L N,v= .ref (L+1)∧NetA h' L N∧Good N∧(∀ k o,k≠r→H[k]? =some o→h'[k]? =some o)∧H.length≤L:=by
  refine zF (fn:=f_law_netlist) rfl rfl ?_
  unfold f_law_netlist;have hrl:r<H.length:=by obtain⟨c,xs,i,d,s,z,a,_⟩:=hH;exact (gS.mp a).1
  have K:Cl4 (callF P 1000 (n+3)):=cl4;generalize callF P 1000 (n+3)=cl at *;have hinit:=K.init (nm:=nM) (H:=H);simp only[SA,Nat.reduceSub,SN,SK];refine zb (v:= .ref (H.length+1)) (m1:=[some (.ref r),some (.int 10),some (.int 2),some (.ref kd),some (.ref (H.length+1)),none,none,none,none,none,none,none,none,none,none,none]) (evE_new (vs:=[.str nM]) (h1:=H) (by simp only[QX];rfl) hinit) (by simp only[QX]) ?_
  obtain⟨pl,h1,N1,Q1,a1,a2,a3,a4,a5,a6,a7,a8,a9,a10,a11⟩:=pool0_s (cl:=cl) (m:=[some (.ref r),some (.int 10),some (.int 2),some (.ref kd),some (.ref (H.length+1)),none,none,none,none,none,none,none,none,none,none,none]) K hH hrl (fun h=>by simp only[QX]) (fun h=>by simp only[QX])
  refine zb (v:= .ref pl) (h1:=h1) (m1:=[some (.ref r),some (.int 10),some (.int 2),some (.ref kd),some (.ref (H.length+1)),some (.ref pl),none,none,none,none,none,none,none,none,none,none]) a1 (by simp only[QX]) ?_
  clear hinit a1;generalize hL:H.length=L at *;obtain⟨v1,h2,b1,b2,b3,b4,b5,_⟩:=a2.pick K (lim:=3) (z:=3) (m:=[some (.ref r),some (.int 10),some (.int 2),some (.ref kd),some (.ref (L+1)),some (.ref pl),none,none,none,none,none,none,none,none,none,none]) (c:=[]) (es:=[(.loc 0),(.bin .add (.loc 2) (.const (.int 1)))]) rfl (by omega) (by omega) (by simp only[QX];rfl)
  obtain⟨h3,c1,c2,c3,c4⟩:=K.nets (w:=v1) b3.net (by omega) b3.len
  obtain⟨d1,d2⟩:=b3.kx c3 c2;have s3:=d1.push (T:=[.list (za (zc N1.count v1))]);have g3:(h3++[AO.list (za (zc N1.count v1))])[h3.length]? =some (.list (za (zc N1.count v1))):=ze;have p3:=Fx.push (L:=L) (T:=[AO.list (za (zc N1.count v1))]) _ _ a4 (d2 _ _ a4 (b4 _ _ a4 a3));have hoa:=d1.len;have hplt:=(gS.mp (d2 _ _ a4 (b4 _ _ a4 a3))).1;refine zb (v:= .ref h3.length) (h1:=h3++[.list (za (zc N1.count v1))]) (m1:=[some (.ref r),some (.int 10),some (.int 2),some (.ref kd),some (.ref (L+1)),some (.ref pl),some (.ref h3.length),none,none,none,none,none,none,none,none,none]) (evE_meth (a:=L+1) (h1:=h1) (vs:=[.int v1]) (h2:=h2) (by simp only[QX]) a2.net.okI (zm b1 evL_nil) c1) (by simp only[QX]) ?_
  have hQ1:4≤Q1.length:=by
   rw[a7];match hN:N1.inputs,a10 with
   | [x,y],_=>
    rw[hN]at a11;have:=a11 x (by simp)
    have:=a11 y (by simp)
    simp[zd];omega
  have hQ2:Q1.length≤6:=by
   rw[a7];match hN:N1.inputs,a10 with
   | [x,y],_=>
    rw[hN]at a11;have:=a11 x (by simp)
    have:=a11 y (by simp)
    simp[zd];omega
  generalize hoad:h3.length=oa at *;generalize h3++[AO.list (za (zc N1.count v1))]=h4 at *;have binit:BInv { N1 with count:=N1.count+v1 } (Q1++zc N1.count v1) (zc N1.count v1) [] 0:=by
   have hsr:srcs { N1 with count:=N1.count+v1 }=[0,1]++zd N1.inputs:=rfl
   have hmem:∀ x,x∈srcs { N1 with count:=N1.count+(v1:Int) }↔0≤x∧x<N1.count:=by
    intro x;rw[hsr,a6,a5,mem_append,netsFrom_mem,mem_cons,mem_cons];simp only[not_mem_nil,or_false];omega
   refine⟨?_,?_,?_,a10,fun p hp=>(a11 p hp).2,by rw[netsFrom_len];omega,Nat.zero_le _,by simp,?_,by rw[length_append];omega,by rw[length_append,netsFrom_len];simp;omega,?_,?_,?_,?_,?_,by rw[a8];simp,?_⟩
   ·intro x hx
    rw[append_nil,mem_append,hmem,netsFrom_mem]at hx;simp only;omega
   ·rw[append_nil,nodup_append]
    refine⟨?_,netsFrom_nodup,fun a ha b hb e=> ?_⟩
    ·rw[hsr,a6,nodup_append]
     refine⟨by decide,netsFrom_nodup,fun a ha b hb e=> ?_⟩
     rw[netsFrom_mem]at hb;simp only[mem_cons,not_mem_nil,or_false]at ha;omega
    ·rw[hmem]at ha
     rw[netsFrom_mem]at hb;omega
   ·rw[hmem,a5]
    have:1≤(zd N1.inputs).length:=by rw[a7]at hQ1;simp at hQ1;omega
    omega
   ·intro x hx
    rw[append_nil,mem_append];rw[mem_append]at hx;rcases hx with hx | hx
    ·exact Or.inl (by rw[hsr,← a7];exact hx)
    ·exact Or.inr hx
   ·unfold outs;simp[a9]
   ·intro c hc;simp[a9]at hc
   ·intro c hc;simp[a9]at hc
   ·simp only[a9];rfl
   ·intro x hx;simp[a8,zd]at hx
   ·intro p hp;simp[a8]at hp
  have hadd:inplV h4 .add (.ref pl) (.ref oa)=some (.ref pl,h4.set pl (.list (za (Q1++zc N1.count v1)))):=by
   unfold inplV;simp only[p3,g3];rw[if_pos ⟨by omega,by rw[zk,zk,netsFrom_len];exact zp (by omega)⟩,intsV_app]
  refine ok_augLoc (x:= .ref pl) (v:= .ref oa) (r:= .ref pl) (h1:=h4) (h2:=h4) (m1:=[some (.ref r),some (.int 10),some (.int 2),some (.ref kd),some (.ref (L+1)),some (.ref pl),some (.ref oa),none,none,none,none,none,none,none,none,none]) (by simp only[QX]) (by simp only[QX]) hadd (by simp only[QX]) ?_
  have s4:=s3.setPool (o:= .list (za (Q1++zc N1.count v1))) p3 a4 hQ1 (fun p hp=>by have:=a11 p hp;omega) (fun p hp=>by simp[a8]at hp)
  have p4:(h4.set pl (.list (za (Q1++zc N1.count v1))))[pl]? =some (.list (za (Q1++zc N1.count v1))):=zB _ _ _ (gS.mp p3).1;have g4:(h4.set pl (.list (za (Q1++zc N1.count v1))))[oa]? =some (.list (za (zc N1.count v1))):=by rw[getElem?_set_ne (by omega)];exact g3
  generalize h4.set pl (AO.list (za (Q1++zc N1.count v1)))=h5 at *;clear s3 p3 g3 hadd d1 d2 c1 c2 c3 c4 b1 b3 b4;have hv1:(zc N1.count v1).length=v1:=netsFrom_len;generalize zc N1.count v1=S at *;generalize Q1++S=Q2 at *;have hout0:({ N1 with count:=N1.count+(v1:Int) }:NL).outputs=[]:=a8
  generalize ({ N1 with count:=N1.count+(v1:Int) }:NL)=N2 at *
  obtain⟨v2,h6,b1,b2,b3,b4,b5,_⟩:=s4.pick K (lim:=11) (z:=11) (m:=[some (.ref r),some (.int 10),some (.int 2),some (.ref kd),some (.ref (L+1)),some (.ref pl),some (.ref oa),none,none,none,none,none,none,none,none,none]) (c:=[]) (es:=[(.loc 0),(.bin .add (.loc 1) (.const (.int 1)))]) rfl (by omega) (by omega) (by simp only[QX];rfl)
  refine ok_range (n:=v2) (h1:=h6) (fun j m h=>(∃ x7 x8 x9 x10,m=[some (.ref r),some (.int 10),some (.int 2),some (.ref kd),some (.ref (L+1)),some (.ref pl),some (.ref oa),x7,x8,x9,x10,none,none,none,none,none])∧∃ N Q CO,ST0 H r L h N∧h[pl]? =some (.list (za Q))∧h[oa]? =some (.list (za S))∧BInv N Q S CO 0∧CO.length=j∧N.outputs=[])
   b1 (by omega) ⟨⟨none,none,none,none,rfl⟩,N2,Q2,[],b3,b4 _ _ a4 p4,b4 _ _ hoa g4,binit,rfl,hout0⟩ ?_ ?_
  ·rintro j m h hj ⟨⟨x7,x8,x9,x10,rfl⟩,N,Q,CO,s,hp,ho,bi,hc,hout⟩
   refine⟨[some (.ref r),some (.int 10),some (.int 2),some (.ref kd),some (.ref (L+1)),some (.ref pl),some (.ref oa),some (.int j),x8,x9,x10,none,none,none,none,none],by simp only[QX],?_⟩
   have rest:∀ (k:Nm) (w:Nat) (p:AV) (h:Hp),ST0 H r L h N→h[pl]? =some (.list (za Q))→h[oa]? =some (.list (za S))→CombOk k w p→Ok (exL cl 1000 [.expr (.bm .append (.loc 5) [(.meth (.loc 4) 6 [(.loc 8),(.comp 1 (.one 0) true (.loc 9) (.elt (.call 42 [(.free 0),(.free 5)]))),(.loc 10)])])] [some (.ref r),some (.int 10),some (.int 2),some (.ref kd),some (.ref (L+1)),some (.ref pl),some (.ref oa),some (.int j),some (.str k),some (.int w),some p,none,none,none,none,none] h) (fun fl m' h'=>(∀ w,fl≠ .ret w)∧((∃ x7 x8 x9 x10,m'=[some (.ref r),some (.int 10),some (.int 2),some (.ref kd),some (.ref (L+1)),some (.ref pl),some (.ref oa),x7,x8,x9,x10,none,none,none,none,none])∧∃ N Q CO,ST0 H r L h' N∧h'[pl]? =some (.list (za Q))∧h'[oa]? =some (.list (za S))∧BInv N Q S CO 0∧CO.length=j+1∧N.outputs=[])):=by
    intro k w p h s hp ho ok;obtain⟨h',N',x,e1,e2,e3,e4,e5,e6⟩:=addcell_s (cl:=cl) (m:=[some (.ref r),some (.int 10),some (.int 2),some (.ref kd),some (.ref (L+1)),some (.ref pl),some (.ref oa),some (.int j),some (.str k),some (.int w),some p,none,none,none,none,none]) s K hp ho a4 hoa (by omega) bi (by omega) ok (fun h=>by simp only[QX]) (fun h=>by simp only[QX]) (fun h=>by simp only[QX]) (fun h=>by simp only[QX]) (fun h=>by simp only[QX]) (fun h=>by simp only[QX])
    exact ok_expr e1 (zn ⟨by simp,⟨_,_,_,_,rfl⟩,N',_,_,e2,e3,e4,e5,by simp;omega,by rw[e6];exact hout⟩)
   have hkh:=s.fr _ _ hkr hk;obtain⟨v3,h7,c1,c2,c3,c4,c5,c6⟩:=s.pick K (lim:=11) (z:=11) (m:=[some (.ref r),some (.int 10),some (.int 2),some (.ref kd),some (.ref (L+1)),some (.ref pl),some (.ref oa),some (.int j),x8,x9,x10,none,none,none,none,none]) (c:=[]) (es:=[(.loc 0),(.bi .len [(.loc 3)])]) rfl (by omega) (by omega) (by simp only[QX,bi_len hkh,length_map];rfl)
   have hkl:kindsL.length=11:=rfl;have hkv:(kindsL.map AV.str)[v3]? =some (.str kindsL[v3]):=by rw[getElem?_map,getElem?_eq_getElem (by omega)];rfl
   have hkm:kindsL[v3]∈kindsL:=getElem_mem _;have hkh7:=c3.fr _ _ hkr hk;generalize kindsL[v3]=k at *;refine zb (v:= .str k) (h1:=h7) (m1:=[some (.ref r),some (.int 10),some (.int 2),some (.ref kd),some (.ref (L+1)),some (.ref pl),some (.ref oa),some (.int j),some (.str k),x9,x10,none,none,none,none,none]) (evE_sub (x:= .ref kd) (y:= .int v3) (h1:=h) (h2:=h7) (by simp only[QX]) c1 (by rw[sub_list hkh7];exact hkv)) (by simp only[QX]) ?_
   have hw0:=wide0_s k hkm;have hdg:((h7++[AO.dict (dictOfPairs [(.str kNot,.int 1),(.str kBuf,.int 1),(.str kMux,.int 3)])])[h7.length]? :Option AO)=some (.dict (dictOfPairs [(.str kNot,.int 1),(.str kBuf,.int 1),(.str kMux,.int 3)])):=ze;refine zb (v:= .int (wide0 k:Nat)) (h1:=h7++[.dict (dictOfPairs [(.str kNot,.int 1),(.str kBuf,.int 1),(.str kMux,.int 3)])]) (m1:=[some (.ref r),some (.int 10),some (.int 2),some (.ref kd),some (.ref (L+1)),some (.ref pl),some (.ref oa),some (.int j),some (.str k),some (.int (wide0 k:Nat)),x10,none,none,none,none,none]) (by
    simp only[QX,pairUp,isKey,bmOk,hdg,bmV,hw0]) (by simp only[QX]) ?_
   have s7:=c3.push (T:=[.dict (dictOfPairs [(.str kNot,.int 1),(.str kBuf,.int 1),(.str kMux,.int 3)])]);have p7:=Fx.push (L:=L) (T:=[.dict (dictOfPairs [(.str kNot,.int 1),(.str kBuf,.int 1),(.str kMux,.int 3)])]) _ _ a4 (c4 _ _ a4 hp);have o7:=Fx.push (L:=L) (T:=[.dict (dictOfPairs [(.str kNot,.int 1),(.str kBuf,.int 1),(.str kMux,.int 3)])]) _ _ hoa (c4 _ _ hoa ho);generalize h7++[AO.dict (dictOfPairs [(.str kNot,.int 1),(.str kBuf,.int 1),(.str kMux,.int 3)])]=h8 at *;refine zb (v:= .none) (h1:=h8) (m1:=[some (.ref r),some (.int 10),some (.int 2),some (.ref kd),some (.ref (L+1)),some (.ref pl),some (.ref oa),some (.int j),some (.str k),some (.int (wide0 k:Nat)),some .none,none,none,none,none,none]) (by simp only[QX]) (by simp only[QX]) ?_
   have s9:=s7.push (T:=[.list ([kLut,kCell].map .str)]);have p9:=Fx.push (L:=L) (T:=[.list ([kLut,kCell].map .str)]) _ _ a4 p7;have o9:=Fx.push (L:=L) (T:=[.list ([kLut,kCell].map .str)]) _ _ hoa o7;refine ok_if (c:=decide (k∈[kLut,kCell])) (h1:=h8++[.list ([kLut,kCell].map .str)]) (tst_of' (in_strs (k:=k) (l:=[kLut,kCell]) (by simp only[QX]) (by simp only[QX];rfl))) ?_ ?_
   ·intro hkc
    have hkc:=of_decide_eq_true hkc;generalize h8++[AO.list ([kLut,kCell].map .str)]=h9 at *;obtain⟨v4,h10,d1,d2,d3,d4,d5,_⟩:=s9.pick K (lim:=3) (z:=3) (m:=[some (.ref r),some (.int 10),some (.int 2),some (.ref kd),some (.ref (L+1)),some (.ref pl),some (.ref oa),some (.int j),some (.str k),some (.int (wide0 k:Nat)),some .none,none,none,none,none,none]) (c:=[]) (es:=[(.loc 0),(.const (.int 3))]) rfl (by omega) (by omega) (by simp only[QX])
    obtain⟨w,hw⟩:∃ w,w=1+v4:=⟨_,rfl⟩;refine zb (v:= .int w) (h1:=h10) (m1:=[some (.ref r),some (.int 10),some (.int 2),some (.ref kd),some (.ref (L+1)),some (.ref pl),some (.ref oa),some (.int j),some (.str k),some (.int w),some .none,none,none,none,none,none]) (evE_bin (x:= .int 1) (y:= .int v4) (h1:=h9) (h2:=h10) (by simp only[QX]) d1 (by simp only[QX,hw];rfl)) (by simp only[QX]) ?_
    obtain⟨w1,w2,w3,w4⟩:=pow2_s w (by omega) (by omega)
    obtain⟨v5,h11,f1,f2,f3,f4,f5,_⟩:=d3.pick K (lim:=2 ^ 2 ^ w) (z:=((2 ^ 2 ^ w:Nat):Int)) (m:=[some (.ref r),some (.int 10),some (.int 2),some (.ref kd),some (.ref (L+1)),some (.ref pl),some (.ref oa),some (.int j),some (.str k),some (.int w),some .none,none,none,none,none,none]) (c:=[]) (es:=[(.loc 0),(.bin .pow (.const (.int 2)) (.bin .pow (.const (.int 2)) (.loc 9)))]) rfl w3 (by omega) (by simp only[QX,w1,w2])
    refine zb (v:= .int v5) (h1:=h11) (m1:=[some (.ref r),some (.int 10),some (.int 2),some (.ref kd),some (.ref (L+1)),some (.ref pl),some (.ref oa),some (.int j),some (.str k),some (.int w),some (.int v5),none,none,none,none,none]) f1 (by simp only[QX]) ?_
    have p11:=f4 _ _ a4 (d4 _ _ a4 p9);have o11:=f4 _ _ hoa (d4 _ _ hoa o9);have hsl:=strInt_len v5;by_cases hcell:k=kCell
    ·subst hcell
     refine zb (v:= .tup [.str ([67]++strInt v5),.int v5]) (h1:=h11) (m1:=[some (.ref r),some (.int 10),some (.int 2),some (.ref kd),some (.ref (L+1)),some (.ref pl),some (.ref oa),some (.int j),some (.str kCell),some (.int w),some (.tup [.str ([67]++strInt v5),.int v5]),none,none,none,none,none]) (by
      simp only[QX,bi_str (h:=h11) (t:=v5) (by omega)]
      rw[str_add (by simp;omega)];rfl) (by simp only[QX]) (ok_end ?_)
     exact rest _ w _ h11 f3 p11 o11 (CombOk.cell w v5 _ (by omega) (by omega))
    ·have hlut:k=kLut:=by simp only[mem_cons,not_mem_nil,or_false]at hkc;exact hkc.resolve_right hcell
     subst hlut;refine zb (v:= .int v5) (h1:=h11) (m1:=[some (.ref r),some (.int 10),some (.int 2),some (.ref kd),some (.ref (L+1)),some (.ref pl),some (.ref oa),some (.int j),some (.str kLut),some (.int w),some (.int v5),none,none,none,none,none]) (by
      simp only[QX,hcell]) (by simp only[QX]) (ok_end ?_)
     exact rest _ w _ h11 f3 p11 o11 (CombOk.lut w v5 (by omega) (by omega))
   ·intro hkc
    have hkc:=of_decide_eq_false hkc;exact ok_end (rest k (wide0 k) _ _ s9 p9 o9 (wide0_ok hkm hkc))
  ·rintro m h ⟨⟨x7,x8,x9,x10,rfl⟩,N,Q,CO,s,hp,ho,bi,hc,hout⟩
   refine ok_range (n:=S.length) (h1:=h) (fun j m h=>(∃ x11 x12 x13 x14 x15,m=[some (.ref r),some (.int 10),some (.int 2),some (.ref kd),some (.ref (L+1)),some (.ref pl),some (.ref oa),x7,x8,x9,x10,x11,x12,x13,x14,x15])∧∃ N,ST0 H r L h N∧h[pl]? =some (.list (za Q))∧h[oa]? =some (.list (za S))∧BInv N Q S CO j∧N.outputs=[])
    (by simp only[QX,bi_len ho,zk]) (by omega) ⟨⟨none,none,none,none,none,rfl⟩,N,s,hp,ho,bi,hout⟩ ?_ ?_
   ·clear s hp ho bi hout
    rintro j m h hj ⟨⟨x11,x12,x13,x14,x15,rfl⟩,N,s,hp,ho,bi,hout⟩
    have hQa:=bi.p1;have hQb:=bi.p2;have hCO:=bi.cl;refine⟨[some (.ref r),some (.int 10),some (.int 2),some (.ref kd),some (.ref (L+1)),some (.ref pl),some (.ref oa),x7,x8,x9,x10,some (.int j),x12,x13,x14,x15],by simp only[QX],?_⟩
    obtain⟨v3,h7,c1,c2,c3,c4,c5,_⟩:=s.pick K (lim:=2) (z:=2) (m:=[some (.ref r),some (.int 10),some (.int 2),some (.ref kd),some (.ref (L+1)),some (.ref pl),some (.ref oa),x7,x8,x9,x10,some (.int j),x12,x13,x14,x15]) (c:=[]) (es:=[(.loc 0),(.const (.int 2))]) rfl (by omega) (by omega) (by simp only[QX])
    refine zb (m1:=[some (.ref r),some (.int 10),some (.int 2),some (.ref kd),some (.ref (L+1)),some (.ref pl),some (.ref oa),x7,x8,x9,x10,some (.int j),some (.int v3),x13,x14,x15]) c1 (by simp only[QX]) ?_
    obtain⟨v4,h8,d1,d2,d3,d4,d5,_⟩:=c3.pick K (lim:=2) (z:=2) (m:=[some (.ref r),some (.int 10),some (.int 2),some (.ref kd),some (.ref (L+1)),some (.ref pl),some (.ref oa),x7,x8,x9,x10,some (.int j),some (.int v3),x13,x14,x15]) (c:=[]) (es:=[(.loc 0),(.const (.int 2))]) rfl (by omega) (by omega) (by simp only[QX])
    refine zb (m1:=[some (.ref r),some (.int 10),some (.int 2),some (.ref kd),some (.ref (L+1)),some (.ref pl),some (.ref oa),x7,x8,x9,x10,some (.int j),some (.int v3),some (.int v4),x14,x15]) d1 (by simp only[QX]) ?_
    have fp8:=d4 _ _ a4 (c4 _ _ a4 hp);have fo8:=d4 _ _ hoa (c4 _ _ hoa ho);obtain⟨y,h9,f1,f2,f3,f4,f5⟩:=d3.choice K (z:=2) (m:=[some (.ref r),some (.int 10),some (.int 2),some (.ref kd),some (.ref (L+1)),some (.ref pl),some (.ref oa),x7,x8,x9,x10,some (.int j),some (.int v3),some (.int v4),x14,x15]) (c:=[]) (es:=[(.loc 0),(.const (.int 3))]) (es2:=[(.loc 0),(.loc 5)]) fp8 a4 (by omega) (by omega) (fun h=>by simp only[QX]) (fun h=>by simp only[QX])
    refine zb (m1:=[some (.ref r),some (.int 10),some (.int 2),some (.ref kd),some (.ref (L+1)),some (.ref pl),some (.ref oa),x7,x8,x9,x10,some (.int j),some (.int v3),some (.int v4),some (.int y),x15]) f1 (by simp only[QX]) ?_
    have fp9:=f4 _ _ a4 fp8;have fo9:=f4 _ _ hoa fo8;obtain⟨z,h10,g1,g2,g3,g4,g5⟩:=f3.near K (m:=[some (.ref r),some (.int 10),some (.int 2),some (.ref kd),some (.ref (L+1)),some (.ref pl),some (.ref oa),x7,x8,x9,x10,some (.int j),some (.int v3),some (.int v4),some (.int y),x15]) (c:=[]) (es:=[(.loc 0),(.loc 5)]) fp9 a4 (by omega) (by omega) (by simp only[QX])
    have fp10:=g4 _ _ a4 fp9;have fo10:=g4 _ _ hoa fo9;have s10:=g3.push (T:=[.list (za [y,z])]);have gl:(h10++[AO.list (za [y,z])])[h10.length]? =some (.list (za [y,z])):=ze;have hl10:=g3.len;have fp10':=Fx.push (L:=L) (T:=[AO.list (za [y,z])]) _ _ a4 fp10;have fo10':=Fx.push (L:=L) (T:=[AO.list (za [y,z])]) _ _ hoa fo10;obtain⟨a,xs,h11,i1,i2,i3,i4,i5,i6,i7,i8⟩:=s10.comp (cl:=cl) (w:=2) (h:=h10++[.list (za [y,z])]) (m:=[some (.ref r),some (.int 10),some (.int 2),some (.ref kd),some (.ref (L+1)),some (.ref pl),some (.ref oa),x7,x8,x9,x10,some (.int j),some (.int v3),some (.int v4),some (.int y),x15]) (it:= .const (.int 2)) (e:= .ite (.cmp .eq (.call 40 [(.free 0),(.const (.int 3))]) (.const (.int 2))) (.call 42 [(.free 0),(.free 5)]) (.const (.int 0))) (Q:=Q) (R:=fun x=>x∈Q∨x=0) Fx.refl (Nat.le_refl _) (by omega) (by simp only[QX];rfl) fp10' a4 (fun j h3 s3 g3=>s3.choice K (z:=0) g3 a4 (by omega) (by omega) (fun h=>by simp only[QX]) (fun h=>by simp only[QX]))
    have gl11:=i5 _ _ hl10 gl;have had:=add_lists gl11 i6 (by rw[i2];simp)
    have s11:=i4.push (T:=[.list (za ([y,z]++xs))]);have gk:(h11++[AO.list (za ([y,z]++xs))])[h11.length]? =some (.list (za ([y,z]++xs))):=ze;have fo11:=Fx.push (L:=L) (T:=[AO.list (za ([y,z]++xs))]) _ _ hoa (i5 _ _ hoa fo10');have fp11:=Fx.push (L:=L) (T:=[AO.list (za ([y,z]++xs))]) _ _ a4 (i5 _ _ a4 fp10');have ll11:=i4.len;refine zb (v:= .ref h11.length) (h1:=h11++[.list (za ([y,z]++xs))]) (m1:=[some (.ref r),some (.int 10),some (.int 2),some (.ref kd),some (.ref (L+1)),some (.ref pl),some (.ref oa),x7,x8,x9,x10,some (.int j),some (.int v3),some (.int v4),some (.int y),some (.ref h11.length)]) (evE_bin (evE_list (vs:=[.int y,.int z]) (zm (by simp only[QX]) (zm g1 evL_nil))) i1 had) (by simp only[QX]) ?_
    have hins:∀ x∈[y,z]++xs,x∈srcs N++S++CO:=by
     have h0:(0:Int)∈srcs N++S++CO:=by unfold srcs;simp
     have h2:(2:Int)∈srcs N++S++CO:=by have:=bi.two;simp[this]
     intro x hx;simp only[cons_append,nil_append,mem_cons]at hx;rcases hx with rfl | rfl | hx
     ·rcases f2 with f2 | rfl
      ·exact bi.ps _ f2
      ·exact h2
     ·exact bi.ps _ g2
     ·rcases i3 x hx with q | rfl
      ·exact bi.ps _ q
      ·exact h0
    have hil:([y,z]++xs).length=4:=by simp[i2]
    generalize [y,z]++xs=ins at *;generalize hah:h11.length=ah at *;generalize h11++[AO.list (za ins)]=h12 at *;obtain⟨v5,h13,k1,k2,k3,k4,k5,_⟩:=s11.pick K (lim:=4) (z:=4) (m:=[some (.ref r),some (.int 10),some (.int 2),some (.ref kd),some (.ref (L+1)),some (.ref pl),some (.ref oa),x7,x8,x9,x10,some (.int j),some (.int v3),some (.int v4),some (.int y),some (.ref ah)]) (c:=[]) (es:=[(.loc 0),(.const (.int 4))]) rfl (by omega) (by omega) (by simp only[QX])
    have hSj:S[j]? =some S[j]:=getElem?_eq_getElem hj;generalize S[j]=o at hSj;have gk2:=k4 _ _ ll11 gk;have fo13:=k4 _ _ hoa fo11;have fp13:=k4 _ _ a4 fp11;have hcl:N.cells.length≤1000:=by
     have:N.cells.length=(outs N).length:=(length_map _).symm;rw[this,bi.ou,length_append,length_take];omega
    have hstr:strInt (j:Nat)=strInt ((j:Nat):Int):=rfl;have hsl:=strInt_len j;have hev:∀ cl:Caller,evE cl (.bin .add (.const (.str [113])) (.bi .str [(.loc 11)])) [some (.ref r),some (.int 10),some (.int 2),some (.ref kd),some (.ref (L+1)),some (.ref pl),some (.ref oa),x7,x8,x9,x10,some (.int j),some (.int v3),some (.int v4),some (.int y),some (.ref ah)] [] h13=some (.str (qn j),h13):=fun cl=>
     evE_bin (x:= .str [113]) (y:= .str (strInt j)) (h1:=h13) (h2:=h13) (by simp only[QX]) (by simp only[QX,bi_str (h:=h13) (t:=j) (by omega)]) (by rw[str_add (by simp;omega)];rfl)
    refine ok_if (c:=decide ((v5:Int)=3)) (h1:=h13) (tst_of' (evE_cmp (y:= .int 3) (h2:=h13) k1 (by simp only[QX]) (by simp only[QX]))) ?_ ?_
    ·intro _
     obtain⟨h14,u1,u2,u3⟩:=drive_e (cl:=cl) (m:=[some (.ref r),some (.int 10),some (.int 2),some (.ref kd),some (.ref (L+1)),some (.ref pl),some (.ref oa),x7,x8,x9,x10,some (.int j),some (.int v3),some (.int v4),some (.int y),some (.ref ah)]) (k:=kLatch) (pe:= .tup [(.bin .add (.const (.str [113])) (.bi .str [(.loc 11)])),(.loc 13)]) (p:= .tup [.str (qn j),.int v4]) k3 K gk2 fo13 hcl hSj (fun h=>by simp only[QX]) (fun h=>by simp only[QX]) (fun h=>by simp only[QX]) (fun h=>by simp only[QX]) (evE_tup (zm (hev _) (zm (by simp only[QX]) evL_nil)))
     exact ok_expr u1 (zx ⟨by simp,⟨_,_,_,_,_,rfl⟩,_,u2,u3 _ _ a4 fp13,u3 _ _ hoa fo13,bi.state (by rw[hil];exact StOk.latch v4 (qn j)) rfl hins hSj,hout⟩)
    ·intro _
     obtain⟨h14,u1,u2,u3⟩:=drive_e (cl:=cl) (m:=[some (.ref r),some (.int 10),some (.int 2),some (.ref kd),some (.ref (L+1)),some (.ref pl),some (.ref oa),x7,x8,x9,x10,some (.int j),some (.int v3),some (.int v4),some (.int y),some (.ref ah)]) (k:=kFlop) (pe:= .tup [(.loc 12),(.bin .add (.const (.str [113])) (.bi .str [(.loc 11)])),(.loc 13)]) (p:= .tup [.int v3,.str (qn j),.int v4]) k3 K gk2 fo13 hcl hSj (fun h=>by simp only[QX]) (fun h=>by simp only[QX]) (fun h=>by simp only[QX]) (fun h=>by simp only[QX]) (evE_tup (zm (by simp only[QX]) (zm (hev _) (zm (by simp only[QX]) evL_nil))))
     exact ok_expr u1 (zx ⟨by simp,⟨_,_,_,_,_,rfl⟩,_,u2,u3 _ _ a4 fp13,u3 _ _ hoa fo13,bi.state (by rw[hil];exact StOk.flop v3 v4 (qn j)) rfl hins hSj,hout⟩)
   ·clear s hp ho bi hout
    rintro m h ⟨⟨x11,x12,x13,x14,x15,rfl⟩,N,s,hp,ho,bi,hout⟩
    have hQa:=bi.p1;have hQb:=bi.p2;have hCO:=bi.cl;obtain⟨v3,h7,c1,c2,c3,c4,c5,_⟩:=s.pick K (lim:=3) (z:=3) (m:=[some (.ref r),some (.int 10),some (.int 2),some (.ref kd),some (.ref (L+1)),some (.ref pl),some (.ref oa),x7,x8,x9,x10,x11,x12,x13,x14,x15]) (c:=[]) (es:=[(.loc 0),(.const (.int 3))]) rfl (by omega) (by omega) (by simp only[QX])
    obtain⟨w,hw⟩:∃ w,w=1+v3:=⟨_,rfl⟩;obtain⟨a,xs,h8,d1,d2,d3,d4,d5,d6,d7,d8⟩:=c3.comp (cl:=cl) (w:=w) (h:=h) (m:=[some (.ref r),some (.int 10),some (.int 2),some (.ref kd),some (.ref (L+1)),some (.ref pl),some (.ref oa),x7,x8,x9,x10,x11,x12,x13,x14,x15]) (it:= .bin .add (.const (.int 1)) (.call 40 [(.loc 0),(.const (.int 3))])) (e:= .call 42 [(.free 0),(.free 5)]) (Q:=Q) (R:=fun x=>x∈Q) c4 (by omega) (by omega) (evE_bin (x:= .int 1) (y:= .int v3) (h1:=h) (h2:=h7) (by simp only[QX]) c1 (by simp only[QX,hw];rfl)) (c4 _ _ a4 hp) a4 (fun j h3 s3 g3=>s3.near K g3 a4 (by omega) (by omega) (by simp only[QX]))
    obtain⟨h9,e1,e2,e3,e4⟩:=K.outp (nm:=[121]) d4.net d6 d4.len (by rw[hout];simp)
    obtain⟨f1,f2⟩:=d4.kx e3 e2;have b2:=bi.out (p:=([121],xs)) d3 (by simp only;omega) (by rw[hout];simp)
    have hout2:({ N with outputs:=N.outputs++[([121],xs)] }:NL).outputs.length=1:=by simp[hout]
    generalize ({ N with outputs:=N.outputs++[([121],xs)] }:NL)=N2 at *
    refine ok_expr (h1:=h9) (v:= .none) (evE_meth (a:=L+1) (h1:=h) (vs:=[.str [121],.ref a]) (h2:=h8) (by simp only[QX]) s.net.okI (zm (by simp only[QX]) (zm d1 evL_nil)) e1) ?_
    have fp9:=f2 _ _ a4 (d5 _ _ a4 hp);obtain⟨z,h10,g1,g2,g3,g4,g5⟩:=f1.near K (m:=[some (.ref r),some (.int 10),some (.int 2),some (.ref kd),some (.ref (L+1)),some (.ref pl),some (.ref oa),x7,x8,x9,x10,x11,x12,x13,x14,x15]) (c:=[]) (es:=[(.loc 0),(.loc 5)]) fp9 a4 (by omega) (by omega) (by simp only[QX])
    have s10:=g3.push (T:=[.list (za [z])]);have gl:(h10++[AO.list (za [z])])[h10.length]? =some (.list (za [z])):=ze;obtain⟨h11,i1,i2,i3,i4⟩:=K.outp (nm:=[122]) s10.net gl s10.len (by omega)
    obtain⟨j1,j2⟩:=s10.kx i3 i2;have b3:=b2.out (p:=([122],[z])) (by simp[g2]) (by simp) (by omega)
    refine ok_expr (h1:=h11) (v:= .none) (evE_meth (a:=L+1) (h1:=h9) (vs:=[.str [122],.ref h10.length]) (h2:=h10++[.list (za [z])]) (by simp only[QX]) f1.net.okI (zm (by simp only[QX]) (zm (evE_list (zm g1 evL_nil)) evL_nil)) i1) ?_
    exact zA (v:= .ref (L+1)) (h1:=h11) (by simp only[QX]) (Or.inl ⟨_,rfl,L,_,rfl,j1.net,b3.good,j1.fr,Nat.le_refl _⟩)
 exact⟨L,h',N,e,r1,r2,r3,r4⟩
theorem comp_st{cl:Caller}{k:Nat}{t:Tgt}{rng:Bool}{it:E}{g:G}{m c:Loc}{h h1:Hp}{x:AV}{vs:List AV}{gd:Option (Nat × AO)}(St:Nat→Loc→Hp→List AV→Prop)(e1:evE cl it m c h=some (x,h1))(e2:itemsOf h1 rng x=some (vs,gd))(s0:St 0 (List.replicate k none) h1 [])
  (hg:∀ j c h acc,St j c h acc→guardOk h gd=true) (hs:∀ j v c h acc,vs[j]? =some v→St j c h acc→∃ c1 c2 h2 acc2,bindT c t v=some c1∧evG cl g m c1 h acc=some (c2,h2,acc2)∧St (j+1) c2 h2 acc2):
  ∃ c' h' acc,evE cl (.comp k t rng it g) m c h=some (.ref h'.length,h'++[.list acc])∧St vs.length c' h' acc:=by
 obtain⟨⟨c',h',acc⟩,e,s⟩:=loopIt_idx (hp:=fun (s:Loc × Hp × List AV)=>s.2.1) (gd:=gd) (f:=fun (s:Loc × Hp × List AV) v=>do
   let c' ← bindT s.1 t v
   evG cl g m c' s.2.1 s.2.2) (fun j s=>St j s.1 s.2.1 s.2.2) (vs:=vs) (x:=(List.replicate k none,h1,[])) (fun j s q=>hg j _ _ _ q)
  (fun j v s ep st=>by
   obtain⟨c1,c2,h2,acc2,b1,b2,b3⟩:=hs j v _ _ _ ep st;exact⟨(c2,h2,acc2),by simp only[b1,Option.bind_eq_bind,Option.bind_some,b2],b3⟩) s0
 exact⟨c',h',acc,evE_comp e1 e2 e,s⟩
theorem evG_for{cl:Caller}{t:Tgt}{rng:Bool}{it:E}{g:G}{m c:Loc}{h h1:Hp}{acc:List AV}{x:AV}{vs:List AV}{gd:Option (Nat × AO)}(St:Nat→Loc→Hp→List AV→Prop)(e1:evE cl it m c h=some (x,h1))(e2:itemsOf h1 rng x=some (vs,gd))(s0:St 0 c h1 acc)
  (hg:∀ j c h acc,St j c h acc→guardOk h gd=true) (hs:∀ j v c h acc,vs[j]? =some v→St j c h acc→∃ c1 c2 h2 acc2,bindT c t v=some c1∧evG cl g m c1 h acc=some (c2,h2,acc2)∧St (j+1) c2 h2 acc2):
  ∃ c' h' acc',evG cl (.for_ t rng it g) m c h acc=some (c',h',acc')∧St vs.length c' h' acc':=by
 obtain⟨⟨c',h',acc'⟩,e,s⟩:=loopIt_idx (hp:=fun (s:Loc × Hp × List AV)=>s.2.1) (gd:=gd) (f:=fun (s:Loc × Hp × List AV) v=>do
   let c' ← bindT s.1 t v
   evG cl g m c' s.2.1 s.2.2) (fun j s=>St j s.1 s.2.1 s.2.2) (vs:=vs) (x:=(c,h1,acc)) (fun j s q=>hg j _ _ _ q)
  (fun j v s ep st=>by
   obtain⟨c1,c2,h2,acc2,b1,b2,b3⟩:=hs j v _ _ _ ep st;exact⟨(c2,h2,acc2),by simp only[b1,Option.bind_eq_bind,Option.bind_some,b2],b3⟩) s0
 refine⟨c',h',acc',?_,s⟩
 unfold evG;simp only[e1,e2,Option.bind_eq_bind,Option.bind_some];exact e
theorem evG_elt{cl:Caller}{e:E}{m c:Loc}{h h1:Hp}{acc:List AV}{v:AV}(e1:evE cl e m c h=some (v,h1))(hl:acc.length≤1000):evG cl (.elt e) m c h acc=some (c,h1,acc++[v]):=by
 unfold evG;simp only[e1,Option.bind_eq_bind,Option.bind_some];rw[if_pos (zp hl)]
theorem evG_if{cl:Caller}{e:E}{g:G}{m c:Loc}{h h1:Hp}{acc:List AV}{v:AV}{b:Bool}{r:Option (Loc × Hp × List AV)}(e1:evE cl e m c h=some (v,h1))(e2:truthy h1 v=some b)(e3:(if b=true then evG cl g m c h1 acc else some (c,h1,acc))=r):evG cl (.if_ e g) m c h acc=r:=by
 unfold evG;simp only[e1,Option.bind_eq_bind,Option.bind_some,e2];exact e3
def sts(l:List Cell):List Cell:=l.filter fun c=>isSt c.kind
theorem isSt_mem(k:Nm):decide (k∈[kFlop,kLatch])=isSt k:=by
 unfold isSt;by_cases h1:k=kFlop<;>by_cases h2:k=kLatch<;>simp[h1,h2]
theorem states_s{W n L:Nat}{N:NL}{H:Hp}(q:NetA H L N)(hs:N.cells.length≤1000):∃ a H',callF P W (n+1) 44 [.ref (L+1)] H=some (.ref a,H')∧Keep H H'∧H.length≤a∧H'[a]? =some (.list ((sts N.cells).map Cell.v)):=by
 have at0:=q.attr;generalize hcl:callF P W n=cl;have hc:=comp_filterL (cl:=cl) (m:=[some (.ref (L+1))]) (c:=[]) (h:=H) (h1:=H) (rng:=false) (it:= .attr (.loc 0) nCells) (t:= .cmp .in_ (.sub (.loc 0) (.const (.int 0))) (.list [(.const (.str kFlop)),(.const (.str kLatch))])) (x:= .ref (L+4)) N.cells Cell.v (gd:=some (L+4,.list (N.cells.map Cell.v))) (fun c=>isSt c.kind) (by simp only[QX,at0]) (zg _ _ _ q.cel) hs (fun T=>by unfold guardOk;simp[get_keep T q.cel]) (fun a ha T=>by
  refine⟨T++[.list ([kFlop,kLatch].map .str)],.bool (isSt a.kind),?_,rfl⟩
  rw[← append_assoc,← isSt_mem];exact in_strs (by unfold Cell.v;simp only[QX]) (by simp only[QX];rfl))
 obtain⟨T,hc⟩:=hc;refine⟨(H++T).length,_,zz (fn:=f_law_states) rfl rfl ⟨[some (.ref (L+1))],?_⟩,(Keep.push _ _).trans (Keep.push _ _),by simp,zE _ _⟩
 rw[hcl];unfold f_law_states;simp only[SA,Nat.reduceSub,SN,SK];exact zD (exS_ret hc)
theorem table_s{W n:Nat}{k:Nm}{l:Nat}{p:AV}{H:Hp}(ok:CombOk k l p):∃ T,callF P W (n+1) 41 [.str k,p] H=some (.int (ctab k p:Nat),H++T):=by
 obtain⟨v,H',e,rfl,T,rfl⟩:∃ v H',callF P W (n+1) 41 [.str k,p] H=some (v,H')∧v= .int (ctab k p:Nat)∧∃ T,H'=H++T:=by
  refine zF (fn:=f_law_table) rfl rfl ?_
  unfold f_law_table;generalize callF P W n=cl;simp only[SA,Nat.reduceSub,SK];refine ok_if (c:=decide (k=kLut)) (h1:=H) (by simp only[QX]) ?_ ?_
  ·intro e
   have e:=of_decide_eq_true e;obtain⟨t,rfl⟩:∃ t:Nat,p= .int t:=by
    generalize hK:k=K at ok;cases ok with
    | lut l t a b=>exact ⟨t,rfl⟩
    | gate k hk=>subst hK;subst e;exact absurd hk (by decide)
    | _=>rw[hK]at e;exact absurd e (by decide)
   refine zA (v:= .int t) (h1:=H) (by simp only[QX]) ⟨fun e=>by simp at e,fun _=>Or.inl ⟨_,rfl,?_,[],by simp⟩⟩
   unfold ctab;simp
  ·intro e1
   have e1:=of_decide_eq_false e1;refine ok_end ?_
   refine ok_if (c:=decide (k=kCell)) (h1:=H) (by simp only[QX]) ?_ ?_
   ·intro e
    have e:=of_decide_eq_true e;obtain⟨t,nm,rfl⟩:∃ (t:Nat) (nm:Nm),p= .tup [.str nm,.int t]:=by
     generalize hK:k=K at ok;cases ok with
     | cell l t nm a b=>exact ⟨t,nm,rfl⟩
     | gate k hk=>subst hK;subst e;exact absurd hk (by decide)
     | _=>rw[hK]at e;exact absurd e (by decide)
    refine zA (v:= .int t) (h1:=H) (by simp only[QX]) ⟨fun e=>by simp at e,fun _=>Or.inl ⟨_,rfl,?_,[],by simp⟩⟩
    unfold ctab;simp
   ·intro e2
    have e2:=of_decide_eq_false e2;refine ok_end ?_
    let DD:List (AV × AV):=[(.str kBuf,.int 2),(.str kNot,.int 1),(.str kAnd,.int 8),(.str kOr,.int 14),(.str kXor,.int 6),(.str kNand,.int 7),(.str kNor,.int 1),(.str kXnor,.int 9),(.str kMux,.int 228)]
    have hd:dfind (dictOfPairs DD) (.str k)=some (.int (ctab k p:Nat)):=by
     cases ok with
     | lut l t a b=>exact absurd rfl e1
     | cell l t nm a b=>exact absurd rfl e2
     | mux=>rfl
     | buf=>rfl
     | not=>rfl
     | gate k hk=>
      unfold gates at hk;simp only[mem_cons,not_mem_nil,or_false]at hk;rcases hk with rfl | rfl | rfl | rfl | rfl | rfl<;>rfl
    have hg:((H++[AO.dict (dictOfPairs DD)])[H.length]? :Option AO)=some (.dict (dictOfPairs DD)):=ze;have hl:evE cl (.loc 0) [some (.str k),some p] [] (H++[.dict (dictOfPairs DD)])=some (.str k,H++[.dict (dictOfPairs DD)]):=by simp only[QX]
    have hdc:evE cl (.dict [(.const (.str kBuf)),(.const (.int 2)),(.const (.str kNot)),(.const (.int 1)),(.const (.str kAnd)),(.const (.int 8)),(.const (.str kOr)),(.const (.int 14)),(.const (.str kXor)),(.const (.int 6)),(.const (.str kNand)),(.const (.int 7)),(.const (.str kNor)),(.const (.int 1)),(.const (.str kXnor)),(.const (.int 9)),(.const (.str kMux)),(.const (.int 228))]) [some (.str k),some p] [] H=some (.ref H.length,H++[.dict (dictOfPairs DD)]):=by
     simp only[QX,pairUp,isKey];rfl
    have hsv:subV (H++[.dict (dictOfPairs DD)]) (.ref H.length) (.str k)=some (.int (ctab k p:Nat)):=by simp only[subV,hg,isKey,if_true,hd]
    exact zA (v:= .int (ctab k p:Nat)) (h1:=H++[.dict (dictOfPairs DD)]) (evE_sub hdc hl hsv) (Or.inl ⟨_,rfl,rfl,_,rfl⟩)
 exact⟨T,e⟩
def patW(t:Nat):Nat→Nat
 | 0=>0
 | n+1=>patW t n+(if n / 2 ^ t % 2=1 then 2 ^ n else 0)
theorem patW_lt(t n:Nat):patW t n<2 ^ n:=by
 induction n with
 | zero=>simp[patW]
 | succ n ih=>unfold patW;rw[Nat.pow_succ];split<;>omega
theorem stOk_sub{k:Nm}{l:Nat}{p:AV}{h:Hp}(ok:StOk k l p):subV h p (.int (-2))=some (.str (pname p)):=by cases ok<;>rfl
def keysOf(N:NL):List AV:=(N.inputs.flatMap fun p=>(List.range p.2.length).map fun (i:Nat)=>AV.tup [.str p.1,.int i])++(zu N.cells).map .str
theorem stNames_sts(l:List Cell):zu l=(sts l).map fun c=>pname c.param:=rfl
theorem pow2_n{a:Nat}(h:a<1024):intOp .pow 2 (a:Int)=some ((2 ^ a:Nat):Int):=by
 have h1:(a:Int)<powLid:=by unfold powLid;omega
 unfold intOp;simp only;rw[if_pos ⟨trivial,by omega,h1⟩,Int.toNat_natCast]
 simp
theorem sum_snoc(xs:List Int)(x:Int):(xs++[x]).sum=xs.sum+x:=by simp
theorem intsOf_ints(xs:List Int):intsOf (za xs)=some xs:=by
 induction xs with
 | nil=>rfl
 | cons a l ih=>
  show intsOf (AV.int a::za l)=_
  unfold intsOf;rw[ih];rfl
def PatAt(h:Hp)(r:Nat)(pat:AV→Nat)(ks:List AV)(rows:Nat):Prop:=∃ es,h[r]? =some (.dict es)∧∀ k∈ks,isKey k=true∧dfind es k=some (.int (pat k:Nat))∧pat k<2 ^ rows
theorem PatAt.keep{h h':Hp}{r rows:Nat}{pat:AV→Nat}{ks:List AV}(p:PatAt h r pat ks rows)(k:Keep h h'):PatAt h' r pat ks rows:=by
 obtain⟨es,a,b⟩:=p;exact⟨es,k _ _ a,b⟩
theorem PatAt.sub{h:Hp}{r rows:Nat}{pat:AV→Nat}{ks:List AV}(p:PatAt h r pat ks rows){k:AV}(hk:k∈ks):subV h (.ref r) k=some (.int (pat k:Nat)):=by
 obtain⟨es,a,b⟩:=p;obtain⟨b1,b2,_⟩:=b k hk;simp only[subV,a,b1,if_true,b2]
theorem mod2_n(a:Nat):intOp .mod (a:Int) 2=some ((a % 2:Nat):Int):=by
 unfold intOp;simp only;rw[if_pos (by omega)]
 simp
theorem eq1_n(a:Nat):decide ((a:Int)=1)=decide (a=1):=by rw[decide_eq_decide];omega
theorem bit_e{cl:Caller}{e f:E}{m c:Loc}{h:Hp}{a b:Nat}(e1:evE cl e m c h=some (.int a,h))(e2:evE cl f m c h=some (.int b,h))(hb:b<31):evE cl (.cmp .eq (.bin .mod (.bin .fdiv e (.bin .pow (.const (.int 2)) f)) (.const (.int 2))) (.const (.int 1))) m c h=some (.bool (decide (a / 2 ^ b % 2=1)),h):=by
 have p1:=pow2_n (a:=b) (by omega)
 have p2:2 ^ b<4294967296:=Nat.lt_of_lt_of_le (Nat.pow_lt_pow_right (by omega) hb) (by decide)
 have p3:=fdiv_n (a:=a) (b:=2 ^ b) (Nat.pow_pos (by omega)) p2
 simp only[QX,e1,e2,p1,p3,mod2_n,eq1_n]
def keysI(ps:List Port):List AV:=ps.flatMap fun p=>(List.range p.2.length).map fun (i:Nat)=>AV.tup [.str p.1,.int i]
theorem keysI_len(ps:List Port):(keysI ps).length=(zd ps).length:=by
 induction ps with
 | nil=>rfl
 | cons p l ih=>
  unfold keysI zd at *;rw[flatMap_cons,flatMap_cons,length_append,length_append,ih];simp
theorem keysOf_eq(N:NL):keysOf N=keysI N.inputs++(zu N.cells).map .str:=rfl
theorem keysOf_len(N:NL):(keysOf N).length=(zd N.inputs).length+(zu N.cells).length:=by rw[keysOf_eq,length_append,keysI_len,length_map]
theorem keysOf_key(N:NL):∀ k∈keysOf N,isKey k=true:=by
 intro k hk;rw[keysOf_eq,mem_append]at hk;rcases hk with hk | hk
 ·unfold keysI at hk
  rw[mem_flatMap]at hk;obtain⟨p,_,hk⟩:=hk;rw[mem_map]at hk;obtain⟨i,_,rfl⟩:=hk;rfl
 ·rw[mem_map]at hk
  obtain⟨s,_,rfl⟩:=hk;rfl
theorem keysI_comp{cl:Caller}{m:Loc}{h:Hp}{L:Nat}{N:NL}(q:NetA h L N)(hs:Small N)(h6:(zd N.inputs).length≤6)(l0:∀ h,locG m 0 h=some (.ref (L+1),h)):evE cl (.comp 3 (.many [0,1]) false (.attr (.loc 0) nInputs) (.for_ (.one 2) true (.bi .len [(.loc 1)]) (.elt (.tup [(.loc 0),(.loc 2)])))) m [] h=some (.ref h.length,h++[.list (keysI N.inputs)]):=by
 obtain⟨vi,i1,i2⟩:=q.inp;have at0:=q.attr;obtain⟨c',h',acc,e,_,s2,s3⟩:=comp_st (cl:=cl) (k:=3) (t:= .many [0,1]) (rng:=false) (it:= .attr (.loc 0) nInputs) (g:= .for_ (.one 2) true (.bi .len [(.loc 1)]) (.elt (.tup [(.loc 0),(.loc 2)]))) (m:=m) (c:=[]) (h:=h) (h1:=h) (x:= .ref (L+2)) (vs:=vi) (gd:=some (L+2,.list vi))
  (fun j c h' acc=>(∃ x y z,c=[x,y,z])∧h'=h∧acc=keysI (N.inputs.take j)) (by simp only[QX,l0,at0]) (zg _ _ _ i1) ⟨⟨none,none,none,rfl⟩,rfl,rfl⟩ (fun j c h' acc s=>by rw[s.2.1];unfold guardOk;simp[i1])
  (fun j v c h' acc hv s=>by
   obtain⟨⟨x,y,z,rfl⟩,rfl,rfl⟩:=s;have hj:=(gS.mp hv).1;rw[i2.1]at hj;obtain⟨a,b1,b2,b3⟩:=i2.2 j _ (getElem?_eq_getElem hj);have ht:N.inputs.take (j+1)=N.inputs.take j++[N.inputs[j]]:=by rw[take_add_one,getElem?_eq_getElem hj];rfl
   have hpl:=hs.pi _ (getElem_mem hj);have hil:=hs.ci;generalize N.inputs[j]=p at *;rw[hv]at b2;cases b2;have hkl:(keysI (N.inputs.take j)).length≤400:=by
    rw[keysI_len];have:=netsOf_len (l:=N.inputs.take j) (fun p hp=>hs.pi p (mem_of_mem_take hp))
    rw[length_take]at this;omega
   obtain⟨c2,h2,acc2,e2,⟨z',hz⟩,hh,hacc⟩:=evG_for (cl:=cl) (t:= .one 2) (rng:=true) (it:= .bi .len [(.loc 1)]) (g:= .elt (.tup [(.loc 0),(.loc 2)])) (m:=m) (c:=[some (.str p.1),some (.ref a),z]) (h:=h') (h1:=h') (acc:=keysI (N.inputs.take j)) (x:= .int (p.2.length:Nat)) (gd:=none)
    (fun i c h2 acc=>(∃ z,c=[some (.str p.1),some (.ref a),z])∧h2=h'∧acc=keysI (N.inputs.take j)++(List.range i).map fun (i:Nat)=>AV.tup [.str p.1,.int i]) (by simp only[QX,bi_len b3,zk]) (items_range _ _ (zp (by omega))) ⟨⟨z,rfl⟩,rfl,by simp⟩ (fun _ _ _ _ _=>rfl)
    (fun i v c h2 acc hv s=>by
     obtain⟨⟨z,rfl⟩,rfl,rfl⟩:=s;have hi:i<p.2.length:=by have:=(gS.mp hv).1;simpa using this
     rw[getElem?_map,getElem?_range hi]at hv;simp only[Option.map_some,Option.some.injEq]at hv;subst hv;exact⟨[some (.str p.1),some (.ref a),some (.int i)],_,_,_,by simp only[QX],evG_elt (v:= .tup [.str p.1,.int i]) (by simp only[QX]<;>rfl) (by simp;omega),⟨_,rfl⟩,rfl,by rw[range_succ,map_append,append_assoc];rfl⟩)
   refine⟨[some (.str p.1),some (.ref a),z],c2,h2,acc2,by simp only[QX],e2,⟨_,_,_,hz⟩,hh,?_⟩
   rw[hacc,ht];unfold keysI;rw[flatMap_append,flatMap_cons,flatMap_nil,append_nil];simp)
 rw[i2.1,take_length]at s3;rw[e,s2,s3]
theorem pnames_comp{cl:Caller}{it:E}{m:Loc}{h h1:Hp}{a:Nat}{l:List Cell}(e:evE cl it m [] h=some (.ref a,h1))(ha:h1[a]? =some (.list (l.map Cell.v)))(hl:l.length≤1000)(ok:∀ c∈l,StOk c.kind c.ins.length c.param):evE cl (.comp 1 (.one 0) false it (.elt (.sub (.sub (.loc 0) (.const (.int 3))) (.neg (.const (.int 2)))))) m [] h=some (.ref h1.length,h1++[.list ((l.map fun c=>pname c.param).map .str)]):=by
 have:=comp_mapL (cl:=cl) (rng:=false) (it:=it) (e:= .sub (.sub (.loc 0) (.const (.int 3))) (.neg (.const (.int 2)))) (m:=m) (c:=[]) (h:=h) (h1:=h1) l Cell.v (fun c=> .str (pname c.param)) e (zg _ _ _ ha) (by unfold guardOk;simp[ha]) hl (fun c hc=>by
  have h2:=stOk_sub (h:=h1) (ok c hc);unfold Cell.v;simp only[QX,h2])
 rw[this,map_map];rfl
theorem sts_ok{N:NL}(g:Good N):∀ c∈sts N.cells,StOk c.kind c.ins.length c.param:=fun c hc=>by
 unfold sts at hc;rw[mem_filter]at hc;exact g.st c hc.1 hc.2
theorem sts_len(l:List Cell):(sts l).length≤l.length:=length_filter_le _ _
theorem patterns_s{n L:Nat}{N:NL}{H:Hp}(q:NetA H L N)(g:Good N):∃ a rows pat H',callF P 1000 (n+2) 45 [.ref (L+1)] H=some (.tup [.ref a,.int (2 ^ rows - 1:Nat)],H')∧Keep H H'∧PatAt H' a pat (keysOf N) rows∧rows≤64:=by
 obtain⟨v,H',e,a,rows,pat,rfl,r1,r2,r3⟩:∃ v H',callF P 1000 (n+2) 45 [.ref (L+1)] H=some (v,H')∧∃ a rows pat,v= .tup [.ref a,.int (2 ^ rows - 1:Nat)]∧Keep H H'∧PatAt H' a pat (keysOf N) rows∧rows≤64:=by
  refine zF (fn:=f_law_patterns) rfl rfl ?_
  unfold f_law_patterns;have hst:=fun (H:Hp) (q:NetA H L N)=>states_s (W:=1000) (n:=n) q (by have:=g.small.cc;omega)
  generalize callF P 1000 (n+1)=cl at *;simp only[SA,Nat.reduceSub,SN,SK];have hbits:=g.bits;have hkl:=keysOf_len N;have hkk:=keysOf_key N;have hsl:=sts_len N.cells;have hcc:=g.small.cc;refine zb (v:= .ref H.length) (h1:=H++[.list (keysI N.inputs)]) (m1:=[some (.ref (L+1)),some (.ref H.length),none,none,none]) (keysI_comp q g.small (by omega) (fun h=>by simp only[QX])) (by simp only[QX]) ?_
  have k0:Keep H (H++[.list (keysI N.inputs)]):=Keep.push _ _;have g0:(H++[AO.list (keysI N.inputs)])[H.length]? =some (.list (keysI N.inputs)):=ze;generalize H++[AO.list (keysI N.inputs)]=h0 at *;obtain⟨sa,h1,b1,b2,b3,b4⟩:=hst h0 (q.keep k0);have hc:=pnames_comp (cl:=cl) (it:= .call 44 [(.loc 0)]) (m:=[some (.ref (L+1)),some (.ref H.length),none,none,none]) (h:=h0) (zi (vs:=[.ref (L+1)]) (h1:=h0) (by simp only[QX]) b1) b4 (by omega) (sts_ok g)
  rw[← stNames_sts]at hc;have g1:=Keep.push h1 [.list ((zu N.cells).map .str)] _ _ (b2 _ _ g0);have g2:(h1++[AO.list ((zu N.cells).map .str)])[h1.length]? =some (.list ((zu N.cells).map .str)):=ze;have hlt:=(gS.mp (b2 _ _ g0)).1;have k1:=(k0.trans b2).snoc [.list ((zu N.cells).map .str)];refine ok_augLoc (x:= .ref H.length) (v:= .ref h1.length) (r:= .ref H.length) (h1:=h0) (h2:=h1++[.list ((zu N.cells).map .str)]) (h3:=(h1++[AO.list ((zu N.cells).map .str)]).set H.length (AO.list (keysOf N))) (m1:=[some (.ref (L+1)),some (.ref H.length),none,none,none]) (by simp only[QX]) hc (by
   unfold inplV;simp only[g1,g2];rw[if_pos ⟨by omega,by rw[keysI_len,length_map];exact zp (by omega)⟩]
   rfl) (by simp only[QX]) ?_
  have k2:=k1.set (a:=H.length) (o:= .list (keysOf N)) (Nat.le_refl _);have g3:((h1++[AO.list ((zu N.cells).map .str)]).set H.length (.list (keysOf N)))[H.length]? =some (.list (keysOf N)):=zB _ _ _ (gS.mp g1).1;generalize (h1++[AO.list ((zu N.cells).map .str)]).set H.length (AO.list (keysOf N))=h2 at *;clear g1 g2 hc k1 b1 b2 b4 k0 g0 hst;generalize keysOf N=ks at *;have hp0:=pow2_n (a:=ks.length) (by omega)
  have hrows:2 ^ ks.length≤64:=Nat.le_trans (Nat.pow_le_pow_right (n:=2) (by omega) (show ks.length≤6 by omega)) (by decide)
  refine zb (v:= .int (2 ^ ks.length:Nat)) (h1:=h2) (m1:=[some (.ref (L+1)),some (.ref H.length),some (.int (2 ^ ks.length:Nat)),none,none]) (by simp only[QX,bi_len g3,hp0]) (by simp only[QX]) ?_
  generalize 2 ^ ks.length=rows at *;have hlt2:=(gS.mp g3).1;refine zb (v:= .ref h2.length) (h1:=h2++[.dict []]) (m1:=[some (.ref (L+1)),some (.ref H.length),some (.int rows),some (.ref h2.length),none]) (by simp only[QX,pairUp];rfl) (by simp only[QX]) ?_
  have k3:=k2.snoc [.dict []];have g4:=Keep.push h2 [.dict []] _ _ g3;have d4:(h2++[AO.dict []])[h2.length]? =some (.dict []):=ze;generalize h2++[AO.dict []]=h3 at *;generalize h2.length=pd at *;refine ok_range (n:=ks.length) (h1:=h3) (fun j m h=>(∃ x,m=[some (.ref (L+1)),some (.ref H.length),some (.int rows),some (.ref pd),x])∧Keep H h∧h[H.length]? =some (.list ks)∧∃ es,h[pd]? =some (.dict es)∧es.length≤j∧∀ k∈ks.take j,∃ w:Nat,dfind es k=some (.int w)∧w<2 ^ rows)
   (by simp only[QX,bi_len g4]) (by omega) ⟨⟨none,rfl⟩,k3,g4,[],d4,by simp,by simp⟩ ?_ ?_
  ·rintro j m h hj ⟨⟨x,rfl⟩,a1,a2,es,a3,a4,a5⟩
   refine⟨[some (.ref (L+1)),some (.ref H.length),some (.int rows),some (.ref pd),some (.int j)],by simp only[QX],?_⟩
   obtain⟨c',h',acc,e1,_,e3,xs,rfl,e4,e5⟩:=comp_st (cl:=cl) (k:=1) (t:= .one 0) (rng:=true) (it:= .loc 2) (g:= .if_ (.cmp .eq (.bin .mod (.bin .fdiv (.loc 0) (.bin .pow (.const (.int 2)) (.free 4))) (.const (.int 2))) (.const (.int 1))) (.elt (.bin .pow (.const (.int 2)) (.loc 0)))) (m:=[some (.ref (L+1)),some (.ref H.length),some (.int rows),some (.ref pd),some (.int j)]) (c:=[]) (h:=h) (h1:=h) (x:= .int rows) (gd:=none)
    (fun i c h' acc=>(∃ x,c=[x])∧h'=h∧∃ xs,acc=za xs∧xs.sum=((patW j i:Nat):Int)∧xs.length≤i) (by simp only[QX]) (items_range _ _ (zp (by omega))) ⟨⟨none,rfl⟩,rfl,[],rfl,rfl,by simp⟩ (fun _ _ _ _ _=>rfl)
    (fun i v c h' acc hv s=>by
     obtain⟨⟨x,rfl⟩,rfl,xs,rfl,s1,s2⟩:=s;have hi:i<rows:=by have:=(gS.mp hv).1;simpa using this
     rw[getElem?_map,getElem?_range hi]at hv;simp only[Option.map_some,Option.some.injEq]at hv;subst hv;have hbt:=bit_e (cl:=cl) (e:= .loc 0) (f:= .free 4) (m:=[some (.ref (L+1)),some (.ref H.length),some (.int rows),some (.ref pd),some (.int j)]) (c:=[some (.int i)]) (h:=h') (a:=i) (b:=j) (by simp only[QX]) (by simp only[QX]) (by omega)
     have hpi:=pow2_n (a:=i) (by omega)
     by_cases hb:i / 2 ^ j % 2=1
     ·refine⟨[some (.int i)],_,_,_,by simp only[QX],evG_if hbt rfl (by rw[if_pos (by simp[hb])];exact evG_elt (v:= .int (2 ^ i:Nat)) (by simp only[QX,hpi]) (by rw[zk];omega)),⟨_,rfl⟩,rfl,xs++[((2 ^ i:Nat):Int)],by unfold za;simp,?_,by simp;omega⟩
      rw[sum_snoc,s1,patW,if_pos hb];omega
     ·refine⟨[some (.int i)],_,_,_,by simp only[QX],evG_if hbt rfl (by rw[if_neg (by simp[hb])]),⟨_,rfl⟩,rfl,xs,rfl,?_,by omega⟩
      rw[s1,patW,if_neg hb];omega)
   subst e3;rw[length_map,length_range]at e4 e5;have hsum:biV (h'++[.list (za xs)]) .sum [.ref h'.length]=some (.int (patW j rows:Nat),h'++[.list (za xs)]):=by
    unfold biV;simp only[zE,intsOf_ints,Option.map_some,e4]
   have a1':=a1.snoc [.list (za xs)];have a2':=Keep.push h' [.list (za xs)] _ _ a2;have a3':=Keep.push h' [.list (za xs)] _ _ a3;have hkj:ks[j]? =some ks[j]:=getElem?_eq_getElem hj;have hkk2:=hkk _ (getElem_mem hj);have htk:=zv hkj;generalize ks[j]=k at *;have hpd:H.length≠pd:=by intro e;rw[← e,a2]at a3;cases a3
   refine zw (v:= .int (patW j rows:Nat)) (x:= .ref pd) (y:=k) (h1:=h'++[.list (za xs)]) (h2:=h'++[.list (za xs)]) (h3:=h'++[.list (za xs)]) (h4:=(h'++[AO.list (za xs)]).set pd (AO.dict (dput es k (.int (patW j rows:Nat))))) (evE_bi (zm e1 evL_nil) hsum) (by simp only[QX]) (evE_sub (x:= .ref H.length) (y:= .int j) (h1:=h'++[.list (za xs)]) (h2:=h'++[.list (za xs)]) (by simp only[QX]) (by simp only[QX]) (by rw[sub_list a2'];exact hkj)) (by
    simp only[setSubV,a3'];rw[if_pos ⟨hkk2,Nat.lt_of_le_of_lt a4 (zp (by omega))⟩]) (zn ⟨by simp,⟨_,rfl⟩,?_,?_,_,zB _ _ _ (gS.mp a3').1,by have:=dput_len es k (.int (patW j rows:Nat));omega,?_⟩)
   ·intro i o ho
    by_cases hi:pd=i
    ·subst hi
     have h1:=(gS.mp ho).1;omega
    ·rw[getElem?_set_ne hi];exact a1' i o ho
   ·rw[getElem?_set_ne (fun e=>hpd e.symm)];exact a2'
   ·intro k' hk'
    rw[htk,mem_append,mem_singleton]at hk';rw[dfind_dput];by_cases hkk':k=k'
    ·rw[if_pos hkk'];exact⟨_,rfl,patW_lt _ _⟩
    ·rw[if_neg hkk']
     rcases hk' with hk' | hk'
     ·exact a5 k' hk'
     ·exact absurd hk'.symm hkk'
  ·rintro m h ⟨⟨x,rfl⟩,a1,a2,es,a3,a4,a5⟩
   rw[take_length]at a5;have hp1:=pow2_n (a:=rows) (by omega)
   have hpos:1≤2 ^ rows:=Nat.pow_pos (by omega)
   refine zA (v:= .tup [.ref pd,.int (2 ^ rows - 1:Nat)]) (h1:=h) ?_ (Or.inl ⟨_,rfl,pd,rows,fun k=>match dfind es k with
    | some (.int w)=>w.toNat
    | _=>0,rfl,a1,⟨es,a3,fun k hk=> ?_⟩,hrows⟩)
   ·simp only[QX,hp1]
    rw[show ((2 ^ rows:Nat):Int) - 1=((2 ^ rows - 1:Nat):Int) from by omega]
   ·obtain⟨w,w1,w2⟩:=a5 k hk
    refine⟨hkk k hk,?_,?_⟩
    ·simp only[w1];simp
    ·simp only[w1];simpa using w2
 exact⟨a,rows,pat,H',e,r1,r2,r3⟩
def partS(ws:List Nat)(full row:Nat):Nat→Nat
 | 0=>full
 | n+1=>partS ws full row n &&& (if row / 2 ^ n % 2=1 then ws.getD n 0 else full - ws.getD n 0)
def totS(t:Nat)(ws:List Nat)(full:Nat):Nat→Nat
 | 0=>0
 | n+1=>if t / 2 ^ n % 2=1 then totS t ws full n ||| partS ws full n ws.length else totS t ws full n
def wordS(t:Nat)(ws:List Nat)(full:Nat):Nat:=totS t ws full (2 ^ ws.length)
theorem word_s{W n t a full:Nat}{ws:List Nat}{H:Hp}(ha:H[a]? =some (.list (zf ws)))(hl:ws.length≤3)(hf:∀ w∈ws,w≤full):callF P W (n+1) 46 [.int t,.ref a,.int full] H=some (.int (wordS t ws full:Nat),H):=by
 obtain⟨v,H',e,rfl,rfl⟩:∃ v H',callF P W (n+1) 46 [.int t,.ref a,.int full] H=some (v,H')∧v= .int (wordS t ws full:Nat)∧H'=H:=by
  refine zF (fn:=f_law_word) rfl rfl ?_
  unfold f_law_word;generalize callF P W n=cl;simp only[SA,Nat.reduceSub];refine zb (v:= .int 0) (h1:=H) (m1:=[some (.int t),some (.ref a),some (.int full),some (.int 0),none,none,none]) (by simp only[QX]) (by simp only[QX]) ?_
  have hp:=pow2_n (a:=ws.length) (by omega)
  have hp8:=pow_le8 hl;unfold wordS;generalize hM:2 ^ ws.length=M at *;refine ok_range (n:=M) (h1:=H) (fun j m h=>(∃ x y z,m=[some (.int t),some (.ref a),some (.int full),some (.int (totS t ws full j:Nat)),x,y,z])∧h=H) (by simp only[QX,bi_len ha,zG,hp]) (by omega) ⟨⟨none,none,none,rfl⟩,rfl⟩ ?_ ?_
  ·rintro j m h hj ⟨⟨x,y,z,rfl⟩,rfl⟩
   refine⟨[some (.int t),some (.ref a),some (.int full),some (.int (totS t ws full j:Nat)),some (.int j),y,z],by simp only[QX],?_⟩
   refine ok_if (c:=decide (t / 2 ^ j % 2=1)) (h1:=h) (zL (bit_e (a:=t) (b:=j) (by simp only[QX]) (by simp only[QX]) (by omega))) ?_ ?_
   ·intro hb
    have hb:=of_decide_eq_true hb;refine zb (v:= .int full) (h1:=h) (m1:=[some (.int t),some (.ref a),some (.int full),some (.int (totS t ws full j:Nat)),some (.int j),some (.int full),z]) (by simp only[QX]) (by simp only[QX]) ?_
    refine ok_range (n:=ws.length) (h1:=h) (fun i m h'=>(∃ z,m=[some (.int t),some (.ref a),some (.int full),some (.int (totS t ws full j:Nat)),some (.int j),some (.int (partS ws full j i:Nat)),z])∧h'=h) (by simp only[QX,bi_len ha,zG]) (by omega) ⟨⟨z,rfl⟩,rfl⟩ ?_ ?_
    ·rintro i m h hi ⟨⟨z,rfl⟩,rfl⟩
     refine⟨[some (.int t),some (.ref a),some (.int full),some (.int (totS t ws full j:Nat)),some (.int j),some (.int (partS ws full j i:Nat)),some (.int i)],by simp only[QX],?_⟩
     have hg:=natsV_get hi;have hle:ws.getD i 0≤full:=by
      rw[getD_eq_getElem?_getD,getElem?_eq_getElem hi];exact hf _ (getElem_mem hi)
     have hbt:=bit_e (cl:=cl) (e:= .loc 4) (f:= .loc 6) (m:=[some (.int t),some (.ref a),some (.int full),some (.int (totS t ws full j:Nat)),some (.int j),some (.int (partS ws full j i:Nat)),some (.int i)]) (c:=[]) (h:=h) (a:=j) (b:=i) (by simp only[QX]) (by simp only[QX]) (by omega)
     have hev:evE cl (.ite (.cmp .eq (.bin .mod (.bin .fdiv (.loc 4) (.bin .pow (.const (.int 2)) (.loc 6))) (.const (.int 2))) (.const (.int 1))) (.sub (.loc 1) (.loc 6)) (.bin .sub (.loc 2) (.sub (.loc 1) (.loc 6)))) [some (.int t),some (.ref a),some (.int full),some (.int (totS t ws full j:Nat)),some (.int j),some (.int (partS ws full j i:Nat)),some (.int i)] [] h=some (.int ((if j / 2 ^ i % 2=1 then ws.getD i 0 else full - ws.getD i 0:Nat):Int),h):=by
      rw[QX.2.2.2.2.2.2.2.2.2.2.2.2.2.2.2.2.1,hbt];simp only[Option.bind_some,QX];by_cases hq:j / 2 ^ i % 2=1
      ·simp only[hq,QX,sub_list ha,hg]
      ·simp only[hq,QX,sub_list ha,hg]
       rw[show ((full:Nat):Int) - ((ws.getD i 0:Nat):Int)=((full - ws.getD i 0:Nat):Int) from by omega]
     refine zb (v:= .int (partS ws full j (i+1):Nat)) (h1:=h) (m1:=[some (.int t),some (.ref a),some (.int full),some (.int (totS t ws full j:Nat)),some (.int j),some (.int (partS ws full j (i+1):Nat)),some (.int i)]) (evE_bin (x:= .int (partS ws full j i:Nat)) (h1:=h) (by simp only[QX]) hev (by simp only[QX,band_n];rfl)) (by simp only[QX]) (zn ⟨by simp,⟨_,rfl⟩,rfl⟩)
    ·rintro m h ⟨⟨z,rfl⟩,rfl⟩
     refine zb (v:= .int (totS t ws full (j+1):Nat)) (h1:=h) (m1:=[some (.int t),some (.ref a),some (.int full),some (.int (totS t ws full (j+1):Nat)),some (.int j),some (.int (partS ws full j ws.length:Nat)),z]) (by
      simp only[QX,bor_n];rw[totS,if_pos hb]) (by simp only[QX]) (zx ⟨by simp,⟨_,_,_,rfl⟩,rfl⟩)
   ·intro hb
    have hb:=of_decide_eq_false hb;refine zx ⟨by simp,⟨some (.int j),y,z,?_⟩,rfl⟩
    rw[totS,if_neg hb]
  ·rintro m h ⟨⟨x,y,z,rfl⟩,rfl⟩
   exact zA (v:= .int (totS t ws full M:Nat)) (h1:=h) (by simp only[QX]) (Or.inl ⟨_,rfl,rfl,rfl⟩)
 exact e
theorem div_mod_bit(a n:Nat):(a / 2 ^ n % 2=1)=(a.testBit n=true):=by
 rw[Nat.testBit_eq_decide_div_mod_eq];simp
theorem full_bit{rows j:Nat}(hj:j<rows):(2 ^ rows - 1).testBit j=true:=by
 rw[Nat.testBit_two_pow_sub_one];simpa using hj
theorem comp_bit{rows j w:Nat}(hj:j<rows)(hw:w<2 ^ rows):(2 ^ rows - 1 - w).testBit j= !w.testBit j:=by
 rw[Nat.sub_sub,Nat.add_comm 1 w,Nat.testBit_two_pow_sub_succ hw];simp[hj]
def eqTo(ws:List Nat)(row j:Nat):Nat→Bool
 | 0=>true
 | n+1=>eqTo ws row j n&&(row.testBit n == (ws.getD n 0).testBit j)
theorem partS_bit{ws:List Nat}{rows row j:Nat}(hj:j<rows)(hw:∀ w∈ws,w<2 ^ rows):∀ n,n≤ws.length→(partS ws (2 ^ rows - 1) row n).testBit j=eqTo ws row j n:=by
 intro n;induction n with
 | zero=>intro _;unfold partS eqTo;exact full_bit hj
 | succ n ih=>
  intro hn;have hwn:ws.getD n 0<2 ^ rows:=by
   rw[getD_eq_getElem?_getD,getElem?_eq_getElem (by omega)]
   exact hw _ (getElem_mem (by omega))
  unfold partS eqTo;rw[Nat.testBit_and,ih (by omega)]
  congr 1
  by_cases h:row / 2 ^ n % 2=1
  ·rw[if_pos h]
   rw[div_mod_bit]at h;rw[h];cases (ws.getD n 0).testBit j<;>rfl
  ·rw[if_neg h,comp_bit hj hwn]
   rw[div_mod_bit]at h;have h:row.testBit n=false:=by simpa using h
   rw[h];cases (ws.getD n 0).testBit j<;>rfl
theorem eqTo_iff{ws:List Nat}{row j:Nat}:∀ n,eqTo ws row j n=true↔∀ i,i<n→row.testBit i=(ws.getD i 0).testBit j:=by
 intro n;induction n with
 | zero=>unfold eqTo;simp
 | succ n ih=>
  unfold eqTo;rw[Bool.and_eq_true,ih,beq_iff_eq];constructor
  ·rintro⟨a,b⟩ i hi
   by_cases h:i=n
   ·subst h;exact b
   ·exact a i (by omega)
  ·intro a
   exact⟨fun i hi=>a i (by omega),a n (by omega)⟩
theorem rowB_bit:∀ (l:List Bool) (i:Nat),(rowB l).testBit i=l.getD i false:=by
 intro l;induction l with
 | nil=>intro i;unfold rowB;simp
 | cons b l ih=>
  intro i;unfold rowB;cases i with
  | zero=>cases b<;>simp[Nat.testBit_zero,Nat.add_mod,Nat.mul_mod_right]
  | succ i=>
   rw[getD_cons_succ,← ih i,Nat.testBit_succ];congr 1
   cases b<;>simp<;>omega
theorem eq_rowB{row:Nat}{l:List Bool}(hr:row<2 ^ l.length)(h:∀ i,i<l.length→row.testBit i=l.getD i false):row=rowB l:=by
 apply Nat.eq_of_testBit_eq
 intro i;by_cases hi:i<l.length
 ·rw[h i hi,rowB_bit]
 ·have hp:2 ^ l.length≤2 ^ i:=Nat.pow_le_pow_right (by omega) (by omega)
  rw[Nat.testBit_lt_two_pow (by omega),Nat.testBit_lt_two_pow (Nat.lt_of_lt_of_le (rowB_lt l) hp)]
def bitsAt(ws:List Nat)(j:Nat):List Bool:=ws.map fun w=>w.testBit j
theorem getD_bits(ws:List Nat)(i j:Nat):(bitsAt ws j).getD i false=(ws.getD i 0).testBit j:=by
 unfold bitsAt;rw[getD_eq_getElem?_getD,getD_eq_getElem?_getD,getElem?_map];cases ws[i]? <;>simp
theorem totS_bit{t rows j:Nat}{ws:List Nat}(hj:j<rows)(hw:∀ w∈ws,w<2 ^ rows):∀ n,n≤2 ^ ws.length→(totS t ws (2 ^ rows - 1) n).testBit j=(decide (rowB (bitsAt ws j)<n)&&t.testBit (rowB (bitsAt ws j))):=by
 intro n;induction n with
 | zero=>intro _;unfold totS;simp
 | succ n ih=>
  intro hn;have hbl:(bitsAt ws j).length=ws.length:=length_map _;have key:eqTo ws n j ws.length=decide (n=rowB (bitsAt ws j)):=by
   have h1:eqTo ws n j ws.length=true↔n=rowB (bitsAt ws j):=by
    rw[eqTo_iff];constructor
    ·intro a
     refine eq_rowB (by rw[hbl];omega) (fun i hi=> ?_)
     rw[getD_bits];exact a i (by omega)
    ·intro a i hi
     rw[a,rowB_bit,getD_bits]
   by_cases h2:n=rowB (bitsAt ws j)
   ·rw[h1.mpr h2];simp[h2]
   ·have:eqTo ws n j ws.length=false:=by
     cases h3:eqTo ws n j ws.length with
     | true=>exact absurd (h1.mp h3) h2
     | false=>rfl
    rw[this];simp[h2]
  unfold totS;by_cases h:t / 2 ^ n % 2=1
  ·rw[if_pos h,Nat.testBit_or,ih (by omega),partS_bit hj hw _ (Nat.le_refl _),key]
   rw[div_mod_bit]at h;by_cases h2:n=rowB (bitsAt ws j)
   ·rw[← h2,h];simp
   ·have e1:decide (rowB (bitsAt ws j)<n+1)=decide (rowB (bitsAt ws j)<n):=by rw[decide_eq_decide];omega
    rw[e1];simp[h2]
  ·rw[if_neg h,ih (by omega)]
   rw[div_mod_bit]at h;have h:t.testBit n=false:=by simpa using h
   by_cases h2:n=rowB (bitsAt ws j)
   ·rw[← h2,h];simp
   ·have e1:decide (rowB (bitsAt ws j)<n+1)=decide (rowB (bitsAt ws j)<n):=by rw[decide_eq_decide];omega
    rw[e1]
theorem wordS_bit{t rows j:Nat}{ws:List Nat}(hj:j<rows)(hw:∀ w∈ws,w<2 ^ rows):(wordS t ws (2 ^ rows - 1)).testBit j=t.testBit (rowB (bitsAt ws j)):=by
 unfold wordS;rw[totS_bit hj hw _ (Nat.le_refl _)];have h1:=rowB_lt (bitsAt ws j);have h2:(bitsAt ws j).length=ws.length:=length_map _;rw[h2]at h1;simp[h1]
theorem partS_le{ws:List Nat}{full row:Nat}:∀ n,partS ws full row n≤full:=by
 intro n;induction n with
 | zero=>exact Nat.le_refl _
 | succ n ih=>unfold partS;exact Nat.le_trans Nat.and_le_left ih
theorem totS_lt{t rows:Nat}{ws:List Nat}:∀ n,totS t ws (2 ^ rows - 1) n<2 ^ rows:=by
 intro n;have hp:0<2 ^ rows:=Nat.pow_pos (by omega)
 induction n with
 | zero=>unfold totS;exact hp
 | succ n ih=>
  unfold totS;split
  ·refine Nat.or_lt_two_pow ih ?_
   have:=partS_le (ws:=ws) (full:=2 ^ rows - 1) (row:=n) ws.length;omega
  ·exact ih
theorem wordS_lt{t rows:Nat}{ws:List Nat}:wordS t ws (2 ^ rows - 1)<2 ^ rows:=totS_lt _
theorem word_ext{a b rows:Nat}(ha:a<2 ^ rows)(hb:b<2 ^ rows)(h:∀ j,j<rows→a.testBit j=b.testBit j):a=b:=by
 apply Nat.eq_of_testBit_eq
 intro i;by_cases hi:i<rows
 ·exact h i hi
 ·have hp:2 ^ rows≤2 ^ i:=Nat.pow_le_pow_right (by omega) (by omega)
  rw[Nat.testBit_lt_two_pow (by omega),Nat.testBit_lt_two_pow (by omega)]
def ckey(p:Port)(j:Nat):AV:= .tup [.str p.1,.int j]
def cbs(l:List Cell):List Cell:=l.filter fun c=> !isSt c.kind
structure Sat(N:NL)(pat:AV→Nat)(rows:Nat)(W:Int→Nat):Prop where
 z:W 0=0
 o:W 1=2 ^ rows - 1
 i:∀ p∈N.inputs,∀ j x,p.2[j]? =some x→W x=pat (ckey p j)
 s:∀ c∈N.cells,isSt c.kind=true→W c.out=pat (.str (pname c.param))
 c:∀ c∈N.cells,isSt c.kind=false→W c.out=wordS (ctab c.kind c.param) (c.ins.map W) (2 ^ rows - 1)
 lt:∀ x∈srcs N++outs N,W x<2 ^ rows
def updW(W:Int→Nat)(x:Int)(v:Nat):Int→Nat:=fun y=>if x=y then v else W y
def fW(S:List Int)(W:Int→Nat):Int→Option Int:=fun x=>if x∈S then some (W x:Int) else none
theorem fW_upd{S:List Int}{W:Int→Nat}{x:Int}{v:Nat}(h:x∉S):upd (fW S W) x v=fW (S++[x]) (updW W x v):=by
 funext y
 unfold upd fW updW;by_cases q:x=y
 ·subst q;simp
 ·have q2:¬ y=x:=fun e=>q e.symm
  simp[q,q2]
structure WS(N:NL)(pat:AV→Nat)(rows:Nat)(W:Int→Nat)(S:List Int)(J:Nat)(st D:List Cell):Prop where
 z:0∈S∧W 0=0
 o:1∈S∧W 1=2 ^ rows - 1
 i:∀ p∈N.inputs.take J,∀ j x,p.2[j]? =some x→x∈S∧W x=pat (ckey p j)
 s:∀ c∈st,c.out∈S∧W c.out=pat (.str (pname c.param))
 c:∀ c∈D,c.out∈S∧(∀ y∈c.ins,y∈S)∧W c.out=wordS (ctab c.kind c.param) (c.ins.map W) (2 ^ rows - 1)
 lt:∀ x∈S,W x<2 ^ rows
theorem updW_old{W:Int→Nat}{S:List Int}{x:Int}{v:Nat}(h:x∉S){y:Int}(hy:y∈S):updW W x v y=W y:=by
 have hne:¬ x=y:=fun e=>h (by rw[e];exact hy)
 unfold updW;rw[if_neg hne]
theorem updW_new{W:Int→Nat}{x:Int}{v:Nat}:updW W x v x=v:=by unfold updW;rw[if_pos rfl]
theorem WS.upd{N:NL}{pat:AV→Nat}{rows J:Nat}{W:Int→Nat}{S:List Int}{st D:List Cell}(w:WS N pat rows W S J st D){x:Int}{v:Nat}(hx:x∉S)(hv:v<2 ^ rows):WS N pat rows (updW W x v) (S++[x]) J st D:=by
 have old:∀ y∈S,updW W x v y=W y:=fun y hy=>updW_old hx hy
 refine⟨⟨by simp[w.z.1],by rw[old _ w.z.1];exact w.z.2⟩,⟨by simp[w.o.1],by rw[old _ w.o.1];exact w.o.2⟩,fun p hp j y hy=> ?_,fun c hc=> ?_,fun c hc=> ?_,fun y hy=> ?_⟩
 ·obtain⟨a,b⟩:=w.i p hp j y hy
  exact⟨by simp[a],by rw[old _ a];exact b⟩
 ·obtain⟨a,b⟩:=w.s c hc
  exact⟨by simp[a],by rw[old _ a];exact b⟩
 ·obtain⟨a,b,d⟩:=w.c c hc
  refine⟨by simp[a],fun y hy=>by simp[b y hy],?_⟩
  rw[old _ a,d];congr 1
  exact map_congr_left fun y hy=>(old y (b y hy)).symm
 ·rw[mem_append,mem_singleton]at hy
  rcases hy with hy | rfl
  ·rw[old y hy];exact w.lt y hy
  ·rw[updW_new];exact hv
theorem perm_split(l:List Cell):(sts l++cbs l).Perm l:=by
 unfold sts cbs;induction l with
 | nil=>exact List.Perm.refl _
 | cons c l ih=>
  cases h:isSt c.kind with
  | true=>simp only[filter_cons,h,if_true,Bool.not_true,Bool.false_eq_true,if_false,cons_append];exact ih.cons c
  | false=>
   simp only[filter_cons,h,if_true,Bool.not_false,Bool.false_eq_true,if_false];exact List.perm_middle.trans (ih.cons c)
theorem cbs_mem{l:List Cell}{c:Cell}:c∈cbs l↔c∈l∧isSt c.kind=false:=by unfold cbs;rw[mem_filter];simp
theorem sts_mem{l:List Cell}{c:Cell}:c∈sts l↔c∈l∧isSt c.kind=true:=by unfold sts;rw[mem_filter]
def souts(N:NL):List Int:=srcs N++(sts N.cells).map (·.out)
theorem Good.nd2{N:NL}(g:Good N){D E:List Cell}(h:(D++E).Perm (cbs N.cells)):(souts N++D.map (·.out)++E.map (·.out)).Nodup:=by
 have h1:(souts N++D.map (·.out)++E.map (·.out)).Perm (srcs N++outs N):=by
  unfold souts outs;rw[append_assoc,append_assoc,← map_append,← map_append];exact List.Perm.append_left _ ((List.Perm.append_left (sts N.cells) h).trans (perm_split N.cells) |>.map _)
 exact h1.nodup_iff.mpr g.nd
theorem min_exists(f:Cell→Nat):∀ l:List Cell,l≠[]→∃ c∈l,∀ d∈l,f c≤f d:=by
 intro l;induction l with
 | nil=>intro h;exact absurd rfl h
 | cons a l ih=>
  intro _;by_cases hl:l=[]
  ·subst hl;exact⟨a,by simp,fun d hd=>by rw[mem_singleton]at hd;subst hd;exact Nat.le_refl _⟩
  ·obtain⟨c,hc,hm⟩:=ih hl
   by_cases hac:f a≤f c
   ·refine⟨a,by simp,fun d hd=> ?_⟩
    rw[mem_cons]at hd;rcases hd with rfl | hd
    ·exact Nat.le_refl _
    ·exact Nat.le_trans hac (hm d hd)
   ·refine⟨c,by simp[hc],fun d hd=> ?_⟩
    rw[mem_cons]at hd;rcases hd with rfl | hd
    ·omega
    ·exact hm d hd
theorem net_cases{N:NL}{y:Int}(h:y∈srcs N++outs N):y∈souts N∨∃ d∈cbs N.cells,d.out=y:=by
 rw[mem_append]at h;rcases h with h | h
 ·left;unfold souts;simp[h]
 ·unfold outs at h
  rw[mem_map]at h;obtain⟨d,hd,rfl⟩:=h;cases hk:isSt d.kind with
  | true=>
   left
   unfold souts;rw[mem_append];right
   exact mem_map.mpr ⟨d,sts_mem.mpr ⟨hd,hk⟩,rfl⟩
  | false=>right;exact⟨d,cbs_mem.mpr ⟨hd,hk⟩,rfl⟩
theorem Good.progress{N:NL}(g:Good N){D left:List Cell}(h:(D++left).Perm (cbs N.cells))(hl:left≠[]):∃ c∈left,∀ y∈c.ins,y∈souts N++D.map (·.out):=by
 obtain⟨rank,hr⟩:=g.acyc;obtain⟨c,hc,hm⟩:=min_exists (fun c=>rank c.out) left hl
 have hcb:c∈cbs N.cells:=h.mem_iff.mp (mem_append_right _ hc);rw[cbs_mem]at hcb;refine⟨c,hc,fun y hy=> ?_⟩
 rcases net_cases (g.drv c hcb.1 y hy) with q | ⟨d,hd,rfl⟩
 ·exact mem_append_left _ q
 ·have hd2:=cbs_mem.mp hd
  have hlt:=hr c hcb.1 hcb.2 d hd2.1 hd2.2 hy;have:d∈D++left:=h.mem_iff.mpr hd;rw[mem_append]at this;rcases this with q | q
  ·exact mem_append_right _ (mem_map.mpr ⟨d,q,rfl⟩)
  ·have:=hm d q;omega
theorem WS.sat{N:NL}{pat:AV→Nat}{rows:Nat}{W:Int→Nat}{D:List Cell}(w:WS N pat rows W (souts N++D.map (·.out)) N.inputs.length (sts N.cells) D)(h:D.Perm (cbs N.cells)):Sat N pat rows W∧∀ x∈srcs N++outs N,x∈souts N++D.map (·.out):=by
 have hm:∀ x∈srcs N++outs N,x∈souts N++D.map (·.out):=by
  intro x hx;rcases net_cases hx with q | ⟨d,hd,rfl⟩
  ·exact mem_append_left _ q
  ·exact mem_append_right _ (mem_map.mpr ⟨d,h.mem_iff.mpr hd,rfl⟩)
 refine⟨⟨w.z.2,w.o.2,fun p hp j x hx=>(w.i p (by rw[take_length];exact hp) j x hx).2,fun c hc hk=>(w.s c (sts_mem.mpr ⟨hc,hk⟩)).2,fun c hc hk=>(w.c c (h.mem_iff.mpr (cbs_mem.mpr ⟨hc,hk⟩))).2.2,fun x hx=>w.lt x (hm x hx)⟩,hm⟩
theorem Sat.unique{N:NL}{pat:AV→Nat}{rows:Nat}{W V:Int→Nat}(g:Good N)(a:Sat N pat rows W)(b:Sat N pat rows V):∀ x∈srcs N++outs N,W x=V x:=by
 obtain⟨rank,hr⟩:=g.acyc;have src:∀ x∈souts N,W x=V x:=by
  intro x hx;unfold souts srcs at hx;simp only[mem_append,mem_cons,not_mem_nil,or_false]at hx;rcases hx with ((rfl | rfl) | hx) | hx
  ·rw[a.z,b.z]
  ·rw[a.o,b.o]
  ·unfold zd at hx
   rw[mem_flatMap]at hx;obtain⟨p,hp,hx⟩:=hx;obtain⟨j,hj⟩:=getElem?_of_mem hx;rw[a.i p hp j x hj,b.i p hp j x hj]
  ·rw[mem_map]at hx
   obtain⟨c,hc,rfl⟩:=hx;rw[sts_mem]at hc;rw[a.s c hc.1 hc.2,b.s c hc.1 hc.2]
 have key:∀ n,∀ c∈cbs N.cells,rank c.out<n→W c.out=V c.out:=by
  intro n;induction n with
  | zero=>intro c _ h;omega
  | succ n ih=>
   intro c hc hn;rw[cbs_mem]at hc;rw[a.c c hc.1 hc.2,b.c c hc.1 hc.2];congr 1
   apply map_congr_left
   intro y hy;rcases net_cases (g.drv c hc.1 y hy) with q | ⟨d,hd,rfl⟩
   ·exact src y q
   ·have hd2:=cbs_mem.mp hd
    have:=hr c hc.1 hc.2 d hd2.1 hd2.2 hy;exact ih d hd (by omega)
 intro x hx;rcases net_cases hx with q | ⟨d,hd,rfl⟩
 ·exact src x q
 ·exact key _ d hd (Nat.lt_succ_self _)
theorem res_bools{h:Hp}{n:Nat}(l:List Bool):(l.map AV.bool).mapM (res h (n+1))=some (l.map fun b=>D.int (if b then 1 else 0)):=by
 induction l with
 | nil=>rfl
 | cons a l ih=>
  rw[map_cons,List.mapM_cons,ih];rfl
theorem anyEq_bool{h:Hp}{x:Bool}{l:List Bool}:anyEq h (.bool x) (l.map AV.bool)=some (decide (x∈l)):=by
 unfold anyEq;rw[show eqFuel=23+1 from rfl,res_bools];simp only[res];congr 1
 rw[decide_eq_decide];constructor
 ·intro q
  obtain⟨y,hy,e⟩:=mem_map.mp q;have:y=x:=by cases y<;>cases x<;>simp_all
  rw[← this];exact hy
 ·intro q
  exact mem_map.mpr ⟨x,q,rfl⟩
theorem in_bools{cl:Caller}{e:E}{m c:Loc}{h h1:Hp}{a:Nat}{x:Bool}{l:List Bool}(e1:evE cl e m c h=some (.ref a,h1))(e2:h1[a]? =some (.list (l.map AV.bool))):evE cl (.cmp .in_ (.const (.bool x)) e) m c h=some (.bool (decide (x∈l)),h1):=by
 have:containsV h1 (.bool x) (.ref a)=some (decide (x∈l)):=by
  unfold containsV;simp only[e2];exact anyEq_bool
 exact evE_cmp (x:= .bool x) (y:= .ref a) (h1:=h) (by simp only[QX]) e1 (by simp only[QX,this])
theorem ckey_mem{N:NL}{p:Port}{j:Nat}(hp:p∈N.inputs)(hj:j<p.2.length):ckey p j∈keysOf N:=by
 rw[keysOf_eq,mem_append];left
 unfold keysI;rw[mem_flatMap];exact⟨p,hp,mem_map.mpr ⟨j,mem_range.mpr hj,rfl⟩⟩
theorem name_mem{N:NL}{c:Cell}(hc:c∈sts N.cells):AV.str (pname c.param)∈keysOf N:=by
 rw[keysOf_eq,mem_append];right
 exact mem_map.mpr ⟨_,mem_map.mpr ⟨c,hc,rfl⟩,rfl⟩
theorem fW_dictput{h:Hp}{r M v:Nat}{S:List Int}{W:Int→Nat}{x:Int}(d:DictI h r (fW S W) M)(hx:x∉S)(hM:M<1000):∃ o,setSubV h (.ref r) (.int x) (.int v)=some (h.set r o)∧DictI (h.set r o) r (fW (S++[x]) (updW W x v)) (M+1):=by
 have:=d.put x v hM;rw[fW_upd hx]at this;exact this
theorem words_s{n L pa rows:Nat}{N:NL}{H:Hp}{pat:AV→Nat}{ks:List AV}(q:NetA H L N)(g:Good N)(hp:PatAt H pa pat ks rows)(hk:∀ k∈keysOf N,k∈ks):∃ r S W M H',callF P 1000 (n+3) 47 [.ref (L+1),.ref pa,.int (2 ^ rows - 1:Nat)] H=some (.ref r,H')∧Keep H H'∧DictI H' r (fW S W) M∧Sat N pat rows W∧∀ x∈srcs N++outs N,x∈S:=by
 obtain⟨v,H',e,r,S,W,M,rfl,r1,r2,r3,r4⟩:∃ v H',callF P 1000 (n+3) 47 [.ref (L+1),.ref pa,.int (2 ^ rows - 1:Nat)] H=some (v,H')∧∃ r S W M,v= .ref r∧Keep H H'∧DictI H' r (fW S W) M∧Sat N pat rows W∧∀ x∈srcs N++outs N,x∈S:=by
  refine zF (fn:=f_law_words) rfl rfl ?_
  unfold f_law_words;have hst:=fun (H:Hp) (q:NetA H L N)=>states_s (W:=1000) (n:=n+1) q (by have:=g.small.cc;omega)
  have htab:=fun (H:Hp) (k:Nm) (l:Nat) (p:AV) (ok:CombOk k l p)=>table_s (W:=1000) (n:=n+1) (H:=H) ok
  have hword:=fun (H:Hp) (t a:Nat) (ws:List Nat)=>word_s (W:=1000) (n:=n+1) (t:=t) (a:=a) (full:=2 ^ rows - 1) (ws:=ws) (H:=H)
  simp only[Nat.add_assoc,Nat.reduceAdd]at hst htab hword;generalize callF P 1000 (n+2)=cl at *;simp only[SA,Nat.reduceSub,SN,SK];have hbits:=g.bits;have hcc:=g.small.cc;have hsl:=sts_len N.cells;have hpos:0<2 ^ rows:=Nat.pow_pos (by omega)
  have hw:∀ (W:Int→Nat) (S:List Int) (l:List Int),(∀ x∈S,W x<2 ^ rows)→(∀ y∈l,y∈S)→∀ w∈l.map W,w≤2 ^ rows - 1:=by
   intro W S l h1 h2 w hw;obtain⟨y,hy,rfl⟩:=mem_map.mp hw;have:=h1 y (h2 y hy);omega
  generalize hfull:2 ^ rows - 1=full at *;have hfl:full<2 ^ rows:=by omega
  refine zb (v:= .ref H.length) (h1:=H++[.dict [(.int 0,.int 0),(.int 1,.int full)]]) (m1:=[some (.ref (L+1)),some (.ref pa),some (.int full),some (.ref H.length),none,none,none,none,none,none,none]) (by simp only[QX,pairUp,isKey];rfl) (by simp only[QX]) ?_
  have k0:Keep H (H++[.dict [(.int 0,.int 0),(.int 1,.int full)]]):=Keep.push _ _;have d0:DictI (H++[.dict [(.int 0,.int 0),(.int 1,.int full)]]) H.length (fW [0,1] (fun x=>if x=1 then full else 0)) 2:=by
   refine⟨_,ze,by simp,fun x=> ?_⟩
   unfold dfind dfind dfind fW;by_cases h0:(0:Int)=x
   ·subst h0;simp
   ·by_cases h1:(1:Int)=x
    ·subst h1;simp
    ·have h0':¬ x=0:=fun e=>h0 e.symm
     have h1':¬ x=1:=fun e=>h1 e.symm
     simp[h0,h1,h0',h1']
  have w0:WS N pat rows (fun x=>if x=1 then full else 0) [0,1] 0 [] []:=⟨⟨by simp,by simp⟩,⟨by simp,by rw[hfull];simp⟩,by simp,by simp,by simp,fun x hx=>by split<;>omega⟩
  generalize H++[AO.dict [(.int 0,.int 0),(.int 1,.int full)]]=h0 at *;generalize (fun x:Int=>if x=1 then full else 0)=W0 at *
  have q0:=q.keep k0;have at0:=q0.attr;obtain⟨vi,i1,i2⟩:=q.inp;refine ok_for (x:= .ref (L+2)) (vs:=vi) (gd:=some (L+2,.list vi)) (h1:=h0) (fun j m h=>(∃ x y z,m=[some (.ref (L+1)),some (.ref pa),some (.int full),some (.ref H.length),x,y,z,none,none,none,none])∧Keep H h∧∃ W,DictI h H.length (fW ([0,1]++zd (N.inputs.take j)) W) ([0,1]++zd (N.inputs.take j)).length∧WS N pat rows W ([0,1]++zd (N.inputs.take j)) j [] [])
   (by simp only[QX,at0]) (zg _ _ _ (k0 _ _ i1)) ⟨⟨none,none,none,rfl⟩,k0,W0,d0,w0⟩ (fun j m h _ s=>by unfold guardOk;simp[s.2.1 _ _ i1]) ?_ ?_
  ·rintro j v m h hv ⟨⟨x,y,z,rfl⟩,a1,W,a2,a3⟩
   have hj:=(gS.mp hv).1;rw[i2.1]at hj;have hjl:j<20:=Nat.lt_of_lt_of_le hj g.small.ci;obtain⟨a,b1,b2,b3⟩:=i2.2 j _ (getElem?_eq_getElem hj);have ht:N.inputs.take (j+1)=N.inputs.take j++[N.inputs[j]]:=by rw[take_add_one,getElem?_eq_getElem hj];rfl
   have hpl:=g.small.pi _ (getElem_mem hj);have hpm:=getElem_mem hj;have hdr:zd N.inputs=zd (N.inputs.take j)++(N.inputs[j].2++zd (N.inputs.drop (j+1))):=by
    have:N.inputs=N.inputs.take j++(N.inputs[j]::N.inputs.drop (j+1)):=by rw[← drop_eq_getElem_cons hj,take_append_drop]
    conv=>lhs;rw[this]
    unfold zd;rw[flatMap_append,flatMap_cons]
   generalize N.inputs[j]=p at *;rw[hv]at b2;cases b2;have hnl:(zd (N.inputs.take j)).length+p.2.length≤6:=by
    have:(zd N.inputs).length=(zd (N.inputs.take j)).length+(p.2.length+(zd (N.inputs.drop (j+1))).length):=by rw[hdr,length_append,length_append]
    omega
   refine⟨[some (.ref (L+1)),some (.ref pa),some (.int full),some (.ref H.length),some (.str p.1),some (.ref a),z,none,none,none,none],by simp only[QX],?_⟩
   have b4:=a1 _ _ b3;refine ok_range (n:=p.2.length) (h1:=h) (fun i m h=>(∃ z,m=[some (.ref (L+1)),some (.ref pa),some (.int full),some (.ref H.length),some (.str p.1),some (.ref a),z,none,none,none,none])∧Keep H h∧∃ W,DictI h H.length (fW ([0,1]++zd (N.inputs.take j)++p.2.take i) W) ([0,1]++zd (N.inputs.take j)++p.2.take i).length∧WS N pat rows W ([0,1]++zd (N.inputs.take j)++p.2.take i) j [] []∧∀ i' x,(p.2.take i)[i']? =some x→x∈([0,1]++zd (N.inputs.take j)++p.2.take i)∧W x=pat (ckey p i'))
    (by simp only[QX,bi_len b4,zk]) (by omega) ⟨⟨_,rfl⟩,a1,W,by simpa using a2,by simpa using a3,by simp⟩ ?_ ?_
   ·rintro i m h hil ⟨⟨z,rfl⟩,a1,W,a2,a3,a4⟩
    have hpi:p.2[i]? =some p.2[i]:=getElem?_eq_getElem hil;have hti:=zv hpi;have hpd:p.2=p.2.take i++(p.2[i]::p.2.drop (i+1)):=by rw[← drop_eq_getElem_cons hil,take_append_drop]
    generalize p.2[i]=x at *;have hx:x∉[0,1]++zd (N.inputs.take j)++p.2.take i:=nodup_mid g.nd (q:=p.2.drop (i+1)++zd (N.inputs.drop (j+1))++outs N) (by
     unfold srcs;rw[hdr];conv=>lhs;rw[hpd]
     simp only[append_assoc,cons_append])
    have hpk:=(hp.keep a1).sub (hk _ (ckey_mem hpm hil));obtain⟨es,hes,hes2⟩:=hp;obtain⟨_,_,hlt⟩:=hes2 _ (hk _ (ckey_mem hpm hil));have b5:=a1 _ _ b3;have hgx:(za p.2)[i]? =some (.int x):=by unfold za;rw[getElem?_map,hpi];rfl
    obtain⟨o,o1,o2⟩:=fW_dictput (v:=pat (ckey p i)) a2 hx (by simp;omega)
    have a3':=a3.upd hx hlt;refine⟨[some (.ref (L+1)),some (.ref pa),some (.int full),some (.ref H.length),some (.str p.1),some (.ref a),some (.int i),none,none,none,none],by simp only[QX],?_⟩
    have hkey:evE cl (.sub (.loc 1) (.tup [(.loc 4),(.loc 6)])) [some (.ref (L+1)),some (.ref pa),some (.int full),some (.ref H.length),some (.str p.1),some (.ref a),some (.int i),none,none,none,none] [] h=some (.int (pat (ckey p i):Nat),h):=evE_sub (x:= .ref pa) (y:=ckey p i) (h1:=h) (h2:=h) (by simp only[QX]) (by simp only[QX]<;>rfl) hpk
    refine zw (x:= .ref H.length) (y:= .int x) (h2:=h) (h3:=h) hkey (by simp only[QX]) (by simp only[QX,sub_list b5,hgx]) o1 (zn ⟨by simp,⟨_,rfl⟩,a1.set (Nat.le_refl _),updW W x (pat (ckey p i)),?_,?_,?_⟩)
    ·rw[hti,← append_assoc,length_append (bs:=[x]),length_singleton]
     exact o2
    ·rw[hti,← append_assoc]
     exact a3'
    ·intro i' y hy
     rw[hti]at hy ⊢;by_cases hi':i'<(p.2.take i).length
     ·rw[getElem?_append_left hi']at hy
      obtain⟨c1,c2⟩:=a4 i' y hy;rw[← append_assoc];exact⟨mem_append_left _ c1,by rw[updW_old hx c1];exact c2⟩
     ·have hl:=(gS.mp hy).1
      rw[length_append,length_singleton]at hl;have hi2:i'=(p.2.take i).length:=by omega
      subst hi2;rw[getElem?_append_right (Nat.le_refl _),Nat.sub_self]at hy;cases hy;have:(p.2.take i).length=i:=by rw[length_take];omega
      rw[this];exact⟨by simp,updW_new⟩
   ·rintro m h ⟨⟨z,rfl⟩,a1,W,a2,a3,a4⟩
    rw[take_length]at a2 a3 a4;have hnt:[0,1]++zd (N.inputs.take (j+1))=[0,1]++zd (N.inputs.take j)++p.2:=by
     rw[ht];unfold zd;rw[flatMap_append,flatMap_cons,flatMap_nil,append_nil,← append_assoc]
    refine zn ⟨by simp,⟨_,_,_,rfl⟩,a1,W,by rw[hnt];exact a2,?_⟩
    rw[hnt];refine⟨a3.z,a3.o,fun p' hp' i' x hx=> ?_,a3.s,a3.c,a3.lt⟩
    rw[ht,mem_append,mem_singleton]at hp';rcases hp' with hp' | rfl
    ·exact a3.i p' hp' i' x hx
    ·exact a4 i' x hx
  ·rintro m h ⟨⟨x,y,z,rfl⟩,a1,W,a2,a3⟩
   rw[i2.1,take_length]at a2;rw[i2.1,take_length]at a3;change DictI h H.length (fW (srcs N) W) (srcs N).length at a2
   change WS N pat rows W (srcs N) N.inputs.length [] []at a3
   have hsrl:(srcs N).length≤8:=by unfold srcs;simp;omega
   clear k0 d0 w0 q0 at0;obtain⟨sa,h1,b1,b2,b3,b4⟩:=hst h (q.keep a1);have hltd:=a2.lt;have hnd:=g.nd2 (D:=[]) (E:=cbs N.cells) (by simp)
   refine ok_for (x:= .ref sa) (vs:=(sts N.cells).map Cell.v) (gd:=some (sa,.list ((sts N.cells).map Cell.v))) (h1:=h1) (fun j m h=>(∃ w,m=[some (.ref (L+1)),some (.ref pa),some (.int full),some (.ref H.length),x,y,z,w,none,none,none])∧Keep H h∧h[sa]? =some (.list ((sts N.cells).map Cell.v))∧∃ W,DictI h H.length (fW (srcs N++((sts N.cells).take j).map (·.out)) W) ((srcs N).length+j)∧WS N pat rows W (srcs N++((sts N.cells).take j).map (·.out)) N.inputs.length ((sts N.cells).take j) [])
    (zi (vs:=[.ref (L+1)]) (h1:=h) (by simp only[QX]) b1) (zg _ _ _ b4) ⟨⟨none,rfl⟩,a1.trans b2,b4,W,by simpa using a2.keep b2,by simpa using a3⟩ (fun j m h _ s=>by unfold guardOk;simp[s.2.2.1]) ?_ ?_
   ·rintro j v m h hv ⟨⟨w,rfl⟩,a1,a4,W,a2,a3⟩
    have hj:=(gS.mp hv).1;rw[length_map]at hj;have hcj:(sts N.cells)[j]? =some (sts N.cells)[j]:=getElem?_eq_getElem hj;rw[getElem?_map,hcj]at hv;have hcm:=getElem_mem hj;have htk:=zv hcj;have hsp:sts N.cells=(sts N.cells).take j++((sts N.cells)[j]::(sts N.cells).drop (j+1)):=by rw[← drop_eq_getElem_cons hj,take_append_drop]
    generalize (sts N.cells)[j]=c at *;simp only[Option.map_some,Option.some.injEq]at hv;subst hv;have hx:c.out∉srcs N++((sts N.cells).take j).map (·.out):=nodup_mid hnd (q:=((sts N.cells).drop (j+1)).map (·.out)++([]:List Cell).map (·.out)++(cbs N.cells).map (·.out)) (by
     unfold souts;conv=>lhs;rw[hsp]
     simp only[map_append,map_cons,append_assoc,cons_append])
    have hpk:=(hp.keep a1).sub (hk _ (name_mem hcm));obtain⟨es,hes,hes2⟩:=hp;obtain⟨_,_,hlt⟩:=hes2 _ (hk _ (name_mem hcm));obtain⟨o,o1,o2⟩:=fW_dictput (v:=pat (.str (pname c.param))) a2 hx (by omega)
    have a3':=a3.upd hx hlt;have hss:=stOk_sub (h:=h) (sts_ok g c hcm);refine⟨[some (.ref (L+1)),some (.ref pa),some (.int full),some (.ref H.length),x,y,z,some c.v,none,none,none],by simp only[QX],?_⟩
    have hkey:evE cl (.sub (.loc 1) (.sub (.sub (.loc 7) (.const (.int 3))) (.neg (.const (.int 2))))) [some (.ref (L+1)),some (.ref pa),some (.int full),some (.ref H.length),x,y,z,some c.v,none,none,none] [] h=some (.int (pat (.str (pname c.param)):Nat),h):=evE_sub (x:= .ref pa) (y:= .str (pname c.param)) (h1:=h) (h2:=h) (by simp only[QX]) (by unfold Cell.v;simp only[QX,hss]) hpk
    refine zw (x:= .ref H.length) (y:= .int c.out) (h2:=h) (h3:=h) hkey (by simp only[QX]) (by unfold Cell.v;simp only[QX]) o1 (zn ⟨by simp,⟨_,rfl⟩,a1.set (Nat.le_refl _),?_,updW W c.out (pat (.str (pname c.param))),?_,?_⟩)
    ·rw[getElem?_set_ne (by omega)];exact a4
    ·rw[htk,map_append,← append_assoc]
     exact o2
    ·rw[htk,map_append,← append_assoc]
     refine⟨a3'.z,a3'.o,a3'.i,fun d hd=> ?_,a3'.c,a3'.lt⟩
     rw[mem_append,mem_singleton]at hd;rcases hd with hd | rfl
     ·exact a3'.s d hd
     ·exact⟨by simp,updW_new⟩
   ·rintro m h ⟨⟨w,rfl⟩,a1,a4,W,a2,a3⟩
    rw[length_map,take_length]at a2;rw[length_map,take_length]at a3;change DictI h H.length (fW (souts N) W) _ at a2
    change WS N pat rows W (souts N) N.inputs.length (sts N.cells) []at a3
    have hltd:=a2.lt;have q1:=q.keep a1;have at1:=q1.attr;obtain⟨T,hleft⟩:=comp_filterL (cl:=cl) (m:=[some (.ref (L+1)),some (.ref pa),some (.int full),some (.ref H.length),x,y,z,w,none,none,none]) (c:=[]) (h:=h) (h1:=h) (rng:=false) (it:= .attr (.loc 0) nCells) (t:= .cmp .notIn (.sub (.loc 0) (.const (.int 0))) (.list [(.const (.str kFlop)),(.const (.str kLatch))])) (x:= .ref (L+4)) N.cells Cell.v (gd:=some (L+4,.list (N.cells.map Cell.v))) (fun c=> !isSt c.kind) (by simp only[QX,at1]) (zg _ _ _ q1.cel) (by omega) (fun T=>by unfold guardOk;simp[get_keep T q1.cel]) (fun a ha T=>by
     refine⟨T++[.list ([kFlop,kLatch].map .str)],.bool (!isSt a.kind),?_,rfl⟩
     rw[← append_assoc,← isSt_mem];exact notin_strs (by unfold Cell.v;simp only[QX]) (by simp only[QX];rfl))
    change evE cl _ _ _ h=some (.ref (h++T).length,(h++T)++[.list ((cbs N.cells).map Cell.v)]) at hleft
    have k1:Keep h ((h++T)++[.list ((cbs N.cells).map Cell.v)]):=(Keep.push _ _).trans (Keep.push _ _);have gl:((h++T)++[AO.list ((cbs N.cells).map Cell.v)])[(h++T).length]? =some (.list ((cbs N.cells).map Cell.v)):=ze;have hla:H.length<(h++T).length:=by simp;omega
    refine zb (m1:=[some (.ref (L+1)),some (.ref pa),some (.int full),some (.ref H.length),x,y,z,w,some (.ref (h++T).length),none,none]) hleft (by simp only[QX]) ?_
    have a1:=a1.trans k1;have a2:=a2.keep k1;generalize (h++T)++[AO.list ((cbs N.cells).map Cell.v)]=h2 at *;generalize (h++T).length=la at *;clear hleft k1 a4 q1 at1;have hcbl:(cbs N.cells).length≤20:=Nat.le_trans (length_filter_le _ _) hcc;refine ok_range (n:=(cbs N.cells).length) (h1:=h2) (fun pp m h=>(∃ w la u v,m=[some (.ref (L+1)),some (.ref pa),some (.int full),some (.ref H.length),x,y,z,w,some (.ref la),u,v]∧H.length<la∧∃ left D W,h[la]? =some (.list (left.map Cell.v))∧left.length≤(cbs N.cells).length - pp∧(D++left).Perm (cbs N.cells)∧DictI h H.length (fW (souts N++D.map (·.out)) W) ((souts N).length+D.length)∧WS N pat rows W (souts N++D.map (·.out)) N.inputs.length (sts N.cells) D)∧Keep H h)
     (by simp only[QX,bi_len gl,length_map]) (by omega) ⟨⟨w,la,none,none,rfl,hla,cbs N.cells,[],W,gl,by omega,List.Perm.refl _,by
      simp only[map_nil,append_nil,length_nil,Nat.add_zero];have:(souts N).length=(srcs N).length+(sts N.cells).length:=by unfold souts;rw[length_append,length_map]
      rw[this];exact a2,by simpa using a3⟩,a1⟩ ?_ ?_
    ·clear a1 a2 a3 gl hla
     rintro pp m h hpp ⟨⟨w,la,u,v,rfl,hla,left,D,W,gl,hll,hperm,a2,a3⟩,a1⟩
     refine⟨[some (.ref (L+1)),some (.ref pa),some (.int full),some (.ref H.length),x,y,z,w,some (.ref la),some (.int pp),v],by simp only[QX],?_⟩
     refine zb (v:= .ref h.length) (h1:=h++[.list []]) (m1:=[some (.ref (L+1)),some (.ref pa),some (.int full),some (.ref H.length),x,y,z,w,some (.ref la),some (.int pp),some (.ref h.length)]) (by simp only[QX]) (by simp only[QX]) ?_
     have k2:=Keep.push h [.list []];have ga:(h++[AO.list []])[h.length]? =some (.list []):=ze;have hla2:=(gS.mp gl).1;have a1:=a1.trans k2;have a2:=a2.keep k2;have gl:=k2 _ _ gl;generalize hag:h.length=ag at *;generalize h++[AO.list []]=h3 at *;clear k2;have hDl:D.length+left.length=(cbs N.cells).length:=by have:=hperm.length_eq;rw[length_append]at this;exact this
     have hsol:(souts N).length≤28:=by unfold souts;rw[length_append,length_map];omega
     refine ok_for (x:= .ref la) (vs:=left.map Cell.v) (gd:=some (la,.list (left.map Cell.v))) (h1:=h3) (fun k m h=>(∃ w,m=[some (.ref (L+1)),some (.ref pa),some (.int full),some (.ref H.length),x,y,z,w,some (.ref la),some (.int pp),some (.ref ag)])∧Keep H h∧h[la]? =some (.list (left.map Cell.v))∧∃ ags D' W',h[ag]? =some (.list (ags.map Cell.v))∧(D'++ags++left.drop k).Perm (cbs N.cells)∧DictI h H.length (fW (souts N++D'.map (·.out)) W') ((souts N).length+D'.length)∧WS N pat rows W' (souts N++D'.map (·.out)) N.inputs.length (sts N.cells) D'∧((D'=D∧ags=left.take k∧∀ c∈left.take k,¬ ∀ y∈c.ins,y∈souts N++D.map (·.out))∨ags.length<k))
      (by simp only[QX]) (zg _ _ _ gl) ⟨⟨w,rfl⟩,a1,gl,[],D,W,ga,by simpa using hperm,a2,a3,Or.inl ⟨rfl,rfl,by simp⟩⟩ (fun j m h _ s=>by unfold guardOk;simp[s.2.2.1]) ?_ ?_
     ·clear a1 a2 a3 gl ga
      rintro k v m h hv ⟨⟨w,rfl⟩,a1,gl,ags,D',W',ga,hperm',a2,a3,hprog⟩
      have hk':=(gS.mp hv).1;rw[length_map]at hk';have hck:left[k]? =some left[k]:=getElem?_eq_getElem hk';rw[getElem?_map,hck]at hv;have hdk:left.drop k=left[k]::left.drop (k+1):=drop_eq_getElem_cons hk';have htk:=zv hck;have hcb:left[k]∈cbs N.cells:=hperm.mem_iff.mp (mem_append_right _ (getElem_mem hk'));generalize left[k]=c at *;simp only[Option.map_some,Option.some.injEq]at hv;subst hv;have hcb2:=cbs_mem.mp hcb;have hok:=g.comb c hcb2.1 hcb2.2;have hil:=combOk_len hok;have hD'l:D'.length+ags.length+(left.length - k)=(cbs N.cells).length:=by have:=hperm'.length_eq;rw[length_append,length_append,length_drop]at this;exact this
      refine⟨[some (.ref (L+1)),some (.ref pa),some (.int full),some (.ref H.length),x,y,z,some c.v,some (.ref la),some (.int pp),some (.ref ag)],by simp only[QX],?_⟩
      have hcmp:=comp_mapL (cl:=cl) (rng:=false) (it:= .sub (.loc 7) (.const (.int 2))) (e:= .cmp .in_ (.loc 0) (.free 3)) (m:=[some (.ref (L+1)),some (.ref pa),some (.int full),some (.ref H.length),x,y,z,some c.v,some (.ref la),some (.int pp),some (.ref ag)]) (c:=[]) (h:=h) (h1:=h) c.ins AV.int (fun y=> .bool (decide (y∈souts N++D'.map (·.out)))) (x:= .tup (za c.ins)) (gd:=none) (by unfold Cell.v;simp only[QX]) rfl rfl (by omega) (fun y hy=>by
       have:(fW (souts N++D'.map (·.out)) W' y).isSome=decide (y∈souts N++D'.map (·.out)):=by
        unfold fW;by_cases hq:y∈souts N++D'.map (·.out)
        ·simp only[hq,if_true,decide_true,Option.isSome_some]
        ·simp only[hq,if_false,decide_false,Option.isSome_none]
       simp only[QX,a2.has,this])
      have hbl:c.ins.map (fun y=>AV.bool (decide (y∈souts N++D'.map (·.out))))=(c.ins.map fun y=>decide (y∈souts N++D'.map (·.out))).map AV.bool:=by rw[map_map];rfl
      rw[hbl]at hcmp;have hbo:=in_bools (cl:=cl) (x:=false) hcmp (zE _ _);have k3:=Keep.push h [.list ((c.ins.map fun y=>decide (y∈souts N++D'.map (·.out))).map AV.bool)]
      have a1:=a1.trans k3;have a2:=a2.keep k3;have gl:=k3 _ _ gl;have ga:=k3 _ _ ga;clear k3 hcmp hbl;have hfalse:decide (false∈c.ins.map fun y=>decide (y∈souts N++D'.map (·.out)))= !decide (∀ y∈c.ins,y∈souts N++D'.map (·.out)):=by
       by_cases hq:∀ y∈c.ins,y∈souts N++D'.map (·.out)
       ·have:¬ false∈c.ins.map fun y=>decide (y∈souts N++D'.map (·.out)):=by
         intro hm;obtain⟨y,hy,e⟩:=mem_map.mp hm;have:=hq y hy;rw[decide_eq_false_iff_not]at e;exact e this
        rw[decide_eq_false this,decide_eq_true hq];rfl
       ·have:false∈c.ins.map fun y=>decide (y∈souts N++D'.map (·.out)):=by
         apply Classical.byContradiction
         intro hm;apply hq
         intro y hy;apply Classical.byContradiction
         intro hn;exact hm (mem_map.mpr ⟨y,hy,decide_eq_false hn⟩)
        rw[decide_eq_true this,decide_eq_false hq];rfl
      rw[hfalse]at hbo;generalize h++[AO.list ((c.ins.map fun y=>decide (y∈souts N++D'.map (·.out))).map AV.bool)]=h4 at *
      refine ok_if (c:= !decide (∀ y∈c.ins,y∈souts N++D'.map (·.out))) (h1:=h4) (tst_of' hbo) ?_ ?_
      ·intro hc
       have hc:¬ ∀ y∈c.ins,y∈souts N++D'.map (·.out):=by
        intro hq;rw[decide_eq_true hq]at hc;cases hc
       refine ok_expr (zM (a:=ag) (h1:=h4) (h2:=h4) (v:=c.v) (by simp only[QX]) ga (by simp only[QX]) ga (by rw[length_map];omega)) (zx ⟨by simp,⟨_,rfl⟩,a1.set (by omega),by rw[getElem?_set_ne (by omega)];exact gl,ags++[c],D',W',?_,?_,a2.other (by omega),a3,?_⟩)
       ·rw[zB _ _ _ (gS.mp ga).1,map_append];rfl
       ·rw[hdk]at hperm'
        rw[← append_assoc,append_assoc (D'++ags)];exact hperm'
       ·rcases hprog with⟨e1,e2,e3⟩ | e
        ·left
         refine⟨e1,by rw[e2,htk],fun d hd=> ?_⟩
         rw[htk,mem_append,mem_singleton]at hd;rcases hd with hd | rfl
         ·exact e3 d hd
         ·rw[← e1];exact hc
        ·right;simp;omega
      ·intro hc
       have hc:∀ y∈c.ins,y∈souts N++D'.map (·.out):=by
        apply Classical.byContradiction
        intro hq;rw[decide_eq_false hq]at hc;cases hc
       obtain⟨T2,ht2⟩:=htab h4 c.kind c.ins.length c.param hok;have k4:=Keep.push h4 T2;have b2:=a2.keep k4;have hcm2:=comp_mapL (cl:=cl) (rng:=false) (it:= .sub (.loc 7) (.const (.int 2))) (e:= .sub (.free 3) (.loc 0)) (m:=[some (.ref (L+1)),some (.ref pa),some (.int full),some (.ref H.length),x,y,z,some c.v,some (.ref la),some (.int pp),some (.ref ag)]) (c:=[]) (h:=h4++T2) (h1:=h4++T2) c.ins AV.int (fun y=> .int (W' y:Nat)) (x:= .tup (za c.ins)) (gd:=none) (by unfold Cell.v;simp only[QX]) rfl rfl (by omega) (fun y hy=>by
        have:=b2.sub (x:=y) (y:=(W' y:Nat)) (by unfold fW;rw[if_pos (hc y hy)])
        simp only[QX,this])
       have hnv:c.ins.map (fun y=>AV.int (W' y:Nat))=zf (c.ins.map W'):=by unfold zf;rw[map_map];rfl
       rw[hnv]at hcm2;have hwd:=hword ((h4++T2)++[.list (zf (c.ins.map W'))]) (ctab c.kind c.param) (h4++T2).length (c.ins.map W') (zE _ _) (by rw[length_map];omega) (hw W' _ c.ins a3.lt hc)
       have k5:Keep h4 ((h4++T2)++[.list (zf (c.ins.map W'))]):=k4.trans (Keep.push _ _);have a1:=a1.trans k5;have a2:=a2.keep k5;have gl:=k5 _ _ gl;have ga:=k5 _ _ ga;have hval:evE cl (.call 46 [(.call 41 [(.sub (.loc 7) (.const (.int 0))),(.sub (.loc 7) (.const (.int 3)))]),(.comp 1 (.one 0) false (.sub (.loc 7) (.const (.int 2))) (.elt (.sub (.free 3) (.loc 0)))),(.loc 2)]) [some (.ref (L+1)),some (.ref pa),some (.int full),some (.ref H.length),x,y,z,some c.v,some (.ref la),some (.int pp),some (.ref ag)] [] h4=some (.int (wordS (ctab c.kind c.param) (c.ins.map W') full:Nat),(h4++T2)++[.list (zf (c.ins.map W'))]):=
        zi (zm (zi (vs:=[.str c.kind,c.param]) (h1:=h4) (by unfold Cell.v;simp only[QX]) ht2) (zm hcm2 (zm (v:= .int full) (h1:=(h4++T2)++[.list (zf (c.ins.map W'))]) (by simp only[QX]) evL_nil))) hwd
       generalize (h4++T2)++[AO.list (zf (c.ins.map W'))]=h5 at *;have hnd2:=g.nd2 (D:=D') (E:=c::(ags++left.drop (k+1))) (by
        refine List.Perm.trans ?_ hperm'
        rw[hdk,append_assoc];exact List.Perm.append_left _ List.perm_middle.symm)
       have hx:c.out∉souts N++D'.map (·.out):=nodup_mid hnd2 (q:=(ags++left.drop (k+1)).map (·.out)) (by rw[map_cons])
       have hlt:wordS (ctab c.kind c.param) (c.ins.map W') full<2 ^ rows:=by rw[← hfull];exact wordS_lt
       obtain⟨o,o1,o2⟩:=fW_dictput (v:=wordS (ctab c.kind c.param) (c.ins.map W') full) a2 hx (by omega)
       have a3':=a3.upd hx hlt;refine zw (x:= .ref H.length) (y:= .int c.out) (h2:=h5) (h3:=h5) hval (by simp only[QX]) (by unfold Cell.v;simp only[QX]) o1 (zx ⟨by simp,⟨_,rfl⟩,a1.set (Nat.le_refl _),by rw[getElem?_set_ne (by omega)];exact gl,ags,D'++[c],updW W' c.out (wordS (ctab c.kind c.param) (c.ins.map W') full),by rw[getElem?_set_ne (by omega)];exact ga,?_,?_,?_,Or.inr ?_⟩)
       ·refine List.Perm.trans ?_ hperm'
        rw[hdk,append_assoc,append_assoc,append_assoc];exact List.Perm.append_left _ (List.perm_middle (a:=c) (l₁:=ags) (l₂:=left.drop (k+1))).symm
       ·rw[map_append,← append_assoc,length_append,← Nat.add_assoc]
        exact o2
       ·rw[map_append,← append_assoc]
        refine⟨a3'.z,a3'.o,a3'.i,a3'.s,fun d hd=> ?_,a3'.lt⟩
        rw[mem_append,mem_singleton]at hd;rcases hd with hd | rfl
        ·exact a3'.c d hd
        ·refine⟨by simp,fun y hy=>mem_append_left _ (hc y hy),?_⟩
         rw[updW_new,hfull];congr 1
         exact map_congr_left fun y hy=>(updW_old hx (hc y hy)).symm
       ·rcases hprog with⟨_,e2,_⟩ | e
        ·rw[e2,length_take];omega
        ·omega
     ·rintro m h ⟨⟨w,rfl⟩,a1,gl,ags,D',W',ga,hperm',a2,a3,hprog⟩
      rw[length_map,drop_length,append_nil]at hperm';rw[length_map]at hprog;have hlen:ags.length≤(cbs N.cells).length - (pp+1):=by
       rcases hprog with⟨e1,e2,e3⟩ | e
       ·rw[take_length]at e2 e3
        by_cases hle:left=[]
        ·rw[e2,hle];simp
        ·obtain⟨c,hc,hin⟩:=g.progress hperm hle
         exact absurd hin (e3 c hc)
       ·omega
      refine zb (v:= .ref ag) (h1:=h) (m1:=[some (.ref (L+1)),some (.ref pa),some (.int full),some (.ref H.length),x,y,z,w,some (.ref ag),some (.int pp),some (.ref ag)]) (by simp only[QX]) (by simp only[QX]) (zn ⟨by simp,⟨w,ag,_,_,rfl,by omega,ags,D',W',ga,hlen,hperm',a2,a3⟩,a1⟩)
    ·rintro m h ⟨⟨w,la,u,v,rfl,hla,left,D,W,gl,hll,hperm,a2,a3⟩,a1⟩
     have:left=[]:=by
      rw[Nat.sub_self]at hll;exact length_eq_zero_iff.mp (by omega)
     subst this;rw[append_nil]at hperm;obtain⟨f1,f2⟩:=a3.sat hperm;exact zA (v:= .ref H.length) (h1:=h) (by simp only[QX]) (Or.inl ⟨_,rfl,_,_,W,_,rfl,a1,a2,f1,f2⟩)
 exact⟨r,S,W,M,H',e,r1,r2,r3,r4⟩
theorem mapM_idx{α:Type}{g:AV→Option D}{f:α→D}:∀ (vs:List AV) (ps:List α),vs.length=ps.length→(∀ (i:Nat) (v:AV) (p:α),vs[i]? =some v→ps[i]? =some p→g v=some (f p))→vs.mapM g=some (ps.map f):=by
 intro vs;induction vs with
 | nil=>intro ps h _;cases ps with
  | nil=>rfl
  | cons p ps=>simp at h
 | cons v vs ih=>
  intro ps h hs;cases ps with
  | nil=>simp at h
  | cons p ps=>
   have h1:=hs 0 v p rfl rfl;have h2:=ih ps (by simpa using h) (fun i v p a b=>hs (i+1) v p (by simpa using a) (by simpa using b))
   rw[List.mapM_cons,h1,h2];rfl
theorem res_nats{h:Hp}{n:Nat}(l:List Nat):(zf l).mapM (res h (n+1))=some (l.map fun (i:Nat)=>D.int i):=by
 induction l with
 | nil=>rfl
 | cons a l ih=>
  show ((AV.int a)::zf l).mapM (res h (n+1))=_
  rw[List.mapM_cons,ih];rfl
theorem res_ref{h:Hp}{n a:Nat}{vs:List AV}{ds:List D}(e:h[a]? =some (.list vs))(r:vs.mapM (res h n)=some ds):res h (n+1) (.ref a)=some (.list ds):=by
 rw[res];simp only[e,r,Option.map_some]
theorem res_tup{h:Hp}{n:Nat}{vs:List AV}{ds:List D}(r:vs.mapM (res h n)=some ds):res h (n+1) (.tup vs)=some (.tup ds):=by
 rw[res];simp only[r,Option.map_some]
theorem mapM2{g:AV→Option D}{a b:AV}{x y:D}(h1:g a=some x)(h2:g b=some y):[a,b].mapM g=some [x,y]:=by
 rw[List.mapM_cons,h1,List.mapM_cons,h2];rfl
theorem mapM3{g:AV→Option D}{a b c:AV}{x y z:D}(h1:g a=some x)(h2:g b=some y)(h3:g c=some z):[a,b,c].mapM g=some [x,y,z]:=by
 rw[List.mapM_cons,h1,mapM2 h2 h3];rfl
def portD(p:Port):D:= .tup [.str p.1,.list (p.2.map D.int)]
theorem res_ports{h:Hp}{n b r:Nat}{vs:List AV}{ps:List Port}(q:PortsAt h b vs ps)(e:h[r]? =some (.list vs)):res h (n+5) (.ref r)=some (.list (ps.map portD)):=by
 refine res_ref e (mapM_idx vs ps q.1 (fun i v p a c=> ?_))
 obtain⟨x,_,x2,x3⟩:=q.2 i p c;rw[a]at x2;cases x2;exact res_tup (mapM2 (by rfl) (res_ref x3 (res_ints _)))
def PortsW(h:Hp)(vs:List AV)(ps:List Port)(W:Int→Nat):Prop:=vs.length=ps.length∧∀ (j:Nat) (p:Port),ps[j]? =some p→∃ a,vs[j]? =some (.tup [.str p.1,.ref a])∧h[a]? =some (.list (zf (p.2.map W)))
def portW(W:Int→Nat)(p:Port):D:= .tup [.str p.1,.list ((p.2.map W).map fun (i:Nat)=>D.int i)]
theorem PortsW.keep{h h':Hp}{vs:List AV}{ps:List Port}{W:Int→Nat}(q:PortsW h vs ps W)(k:Keep h h'):PortsW h' vs ps W:=
 ⟨q.1,fun j p e=>by obtain⟨a,b,c⟩:=q.2 j p e;exact⟨a,b,k _ _ c⟩⟩
theorem res_portsW{h:Hp}{n r:Nat}{vs:List AV}{ps:List Port}{W:Int→Nat}(q:PortsW h vs ps W)(e:h[r]? =some (.list vs)):res h (n+5) (.ref r)=some (.list (ps.map (portW W))):=by
 refine res_ref e (mapM_idx vs ps q.1 (fun i v p a c=> ?_))
 obtain⟨x,x2,x3⟩:=q.2 i p c;rw[a]at x2;cases x2;exact res_tup (mapM2 (by rfl) (res_ref x3 (res_nats _)))
theorem PortsW.snoc{h:Hp}{a:Nat}{vs:List AV}{ps:List Port}{p:Port}{W:Int→Nat}(q:PortsW h vs ps W)(e:h[a]? =some (.list (zf (p.2.map W)))):PortsW h (vs++[.tup [.str p.1,.ref a]]) (ps++[p]) W:=by
 refine⟨by simp[q.1],fun j p' e'=> ?_⟩
 by_cases hj:j<ps.length
 ·rw[getElem?_append_left hj]at e'
  obtain⟨a',y,z⟩:=q.2 j p' e';exact⟨a',by rw[getElem?_append_left (by have:=q.1;omega)];exact y,z⟩
 ·have hl:=(gS.mp e').1
  rw[length_append,length_singleton]at hl;have:j=ps.length:=by omega
  subst this;rw[getElem?_append_right (Nat.le_refl _),Nat.sub_self]at e';cases e';exact⟨a,by rw[← q.1,getElem?_append_right (Nat.le_refl _),Nat.sub_self];rfl,e⟩
def StatesW(h:Hp)(es:List (AV × AV))(l:List Cell)(W:Int→Nat):Prop:=es.length=l.length∧∀ (j:Nat) (c:Cell),l[j]? =some c→∃ a,es[j]? =some (.str (pname c.param),.tup [.str c.kind,c.param,.ref a])∧h[a]? =some (.list (zf (c.ins.map W)))
theorem StatesW.keep{h h':Hp}{es:List (AV × AV)}{l:List Cell}{W:Int→Nat}(q:StatesW h es l W)(k:Keep h h'):StatesW h' es l W:=
 ⟨q.1,fun j p e=>by obtain⟨a,b,c⟩:=q.2 j p e;exact⟨a,b,k _ _ c⟩⟩
theorem StatesW.snoc{h:Hp}{a:Nat}{es:List (AV × AV)}{l:List Cell}{c:Cell}{W:Int→Nat}(q:StatesW h es l W)(e:h[a]? =some (.list (zf (c.ins.map W)))):StatesW h (es++[(.str (pname c.param),.tup [.str c.kind,c.param,.ref a])]) (l++[c]) W:=by
 refine⟨by simp[q.1],fun j p' e'=> ?_⟩
 by_cases hj:j<l.length
 ·rw[getElem?_append_left hj]at e'
  obtain⟨a',y,z⟩:=q.2 j p' e';exact⟨a',by rw[getElem?_append_left (by have:=q.1;omega)];exact y,z⟩
 ·have hl:=(gS.mp e').1
  rw[length_append,length_singleton]at hl;have:j=l.length:=by omega
  subst this;rw[getElem?_append_right (Nat.le_refl _),Nat.sub_self]at e';cases e';exact⟨a,by rw[← q.1,getElem?_append_right (Nat.le_refl _),Nat.sub_self];rfl,e⟩
theorem dpNew{es:List (AV × AV)}{k v:AV}(h:dfind es k=none):dput es k v=es++[(k,v)]:=by
 induction es with
 | nil=>rfl
 | cons p r ih=>
  obtain⟨a,x⟩:=p;unfold dfind at h;unfold dput;split at h
  ·cases h
  ·rename_i hne
   rw[if_neg hne,ih h];rfl
theorem dfNone{es:List (AV × AV)}{k:AV}(h:∀ p∈es,p.1≠k):dfind es k=none:=by
 induction es with
 | nil=>rfl
 | cons p r ih=>
  obtain⟨a,x⟩:=p;unfold dfind;rw[if_neg (h (a,x) (by simp))]
  exact ih fun p hp=>h p (by simp[hp])
theorem dfind_at:∀ {es:List (AV × AV)} {k v:AV} {j:Nat},es[j]? =some (k,v)→(∀ i p,i<j→es[i]? =some p→p.1≠k)→dfind es k=some v
 | [],k,v,j,h,_=>by simp at h
 | (a,x)::r,k,v,0,h,_=>by
  simp at h;obtain⟨rfl,rfl⟩:=h;unfold dfind;rw[if_pos rfl]
 | (a,x)::r,k,v,j+1,h,hn=>by
  unfold dfind;rw[if_neg (hn 0 (a,x) (by omega) rfl)]
  exact dfind_at (j:=j) (by simpa using h) (fun i p hi e=>hn (i+1) p (by omega) (by simpa using e))
theorem nodup_idx{l:List Nm}(hn:l.Nodup){i j:Nat}{x:Nm}(h1:l[i]? =some x)(h2:l[j]? =some x):i=j:=by
 obtain⟨a1,b1⟩:=gS.mp h1;obtain⟨a2,b2⟩:=gS.mp h2;have hn:=pairwise_iff_getElem.mp hn;apply Classical.byContradiction
 intro hij;rcases Nat.lt_or_gt_of_ne hij with q | q
 ·exact hn i j a1 a2 q (b1.trans b2.symm)
 ·exact hn j i a2 a1 q (b2.trans b1.symm)
theorem StatesW.find{h:Hp}{es:List (AV × AV)}{l:List Cell}{W:Int→Nat}(q:StatesW h es l W)(hn:(l.map fun c=>pname c.param).Nodup){c:Cell}(hc:c∈l):∃ a,dfind es (.str (pname c.param))=some (.tup [.str c.kind,c.param,.ref a])∧h[a]? =some (.list (zf (c.ins.map W))):=by
 obtain⟨j,hj⟩:=getElem?_of_mem hc;obtain⟨a,b,d⟩:=q.2 j c hj;refine⟨a,dfind_at b (fun i p hi e=> ?_),d⟩
 have hil:=(gS.mp e).1;rw[q.1]at hil;obtain⟨a',b',_⟩:=q.2 i _ (getElem?_eq_getElem hil);rw[e]at b';cases b';intro heq;injection heq with heq
 have hjl:=(gS.mp hj).1;have h1:(l.map fun c=>pname c.param)[i]? =some (pname l[i].param):=by rw[getElem?_map,getElem?_eq_getElem hil];rfl
 have h2:(l.map fun c=>pname c.param)[j]? =some (pname c.param):=by rw[getElem?_map,hj];rfl
 have hij:=nodup_idx hn h1 (by rw[h2,heq])
 omega
theorem wget_comp{cl:Caller}{m c:Loc}{h:Hp}{it:E}{r M:Nat}{S:List Int}{W:Int→Nat}{l:List Int}{x:AV}{gd:Option (Nat × AO)}(d:DictI h r (fW S W) M)(l3:∀ h,locG m 3 h=some (.ref r,h))(e1:evE cl it m c h=some (x,h))(e2:itemsOf h false x=some (za l,gd))(hg:guardOk h gd=true)(hl:l.length≤100)(hS:∀ y∈l,y∈S):
  evE cl (.comp 1 (.one 0) false it (.elt (.bm .get (.free 3) [(.loc 0),(.neg (.const (.int 1)))]))) m c h=some (.ref h.length,h++[.list (zf (l.map W))]):=by
 have:=comp_mapL (cl:=cl) (rng:=false) (it:=it) (e:= .bm .get (.free 3) [(.loc 0),(.neg (.const (.int 1)))]) (m:=m) (c:=c) (h:=h) (h1:=h) l AV.int (fun y=> .int (W y:Nat)) e1 e2 hg (by omega) (fun y hy=>by
  have hg2:=d.get y (-1);have hf:(fW S W y).getD (-1)=(W y:Nat):=by unfold fW;rw[if_pos (hS y hy)];rfl
  rw[hf]at hg2;simp only[QX,l3,d.ok,hg2])
 rw[this];unfold zf;rw[map_map];rfl
theorem sinks_s{n L pa rows:Nat}{N:NL}{H:Hp}{pat:AV→Nat}{ks:List AV}(q:NetA H L N)(g:Good N)(hp:PatAt H pa pat ks rows)(hk:∀ k∈keysOf N,k∈ks):∃ a b vs es W H',callF P 1000 (n+4) 48 [.ref (L+1),.ref pa,.int (2 ^ rows - 1:Nat)] H=some (.tup [.ref a,.ref b],H')∧Keep H H'∧H'[a]? =some (.list vs)∧PortsW H' vs N.outputs W∧H'[b]? =some (.dict es)∧StatesW H' es (sts N.cells) W∧Sat N pat rows W:=by
 obtain⟨v,H',e,a,b,vs,es,W,rfl,r⟩:∃ v H',callF P 1000 (n+4) 48 [.ref (L+1),.ref pa,.int (2 ^ rows - 1:Nat)] H=some (v,H')∧∃ a b vs es W,v= .tup [.ref a,.ref b]∧Keep H H'∧H'[a]? =some (.list vs)∧PortsW H' vs N.outputs W∧H'[b]? =some (.dict es)∧StatesW H' es (sts N.cells) W∧Sat N pat rows W:=by
  refine zF (fn:=f_law_sinks) rfl rfl ?_
  unfold f_law_sinks;obtain⟨r,S,W,M,h0,w1,w2,w3,w4,w5⟩:=words_s (n:=n) q g hp hk;have hst:=fun (H:Hp) (q:NetA H L N)=>states_s (W:=1000) (n:=n+2) q (by have:=g.small.cc;omega)
  simp only[Nat.add_assoc,Nat.reduceAdd]at hst;generalize callF P 1000 (n+3)=cl at *;generalize 2 ^ rows - 1=full at *;simp only[SA,Nat.reduceSub,SN,SK];have hcc:=g.small.cc;have hsl:=sts_len N.cells;have hco:=g.small.co;refine zb (v:= .ref r) (h1:=h0) (m1:=[some (.ref (L+1)),some (.ref pa),some (.int full),some (.ref r),none,none,none]) (zi (vs:=[.ref (L+1),.ref pa,.int full]) (h1:=H) (by simp only[QX]) w1) (by simp only[QX]) ?_
  have q0:=q.keep w2;have at0:=q0.attr;obtain⟨vo,o1,o2⟩:=q0.outp;obtain⟨c',h1,acc,e1,_,s2,s3⟩:=comp_st (cl:=cl) (k:=2) (t:= .many [0,1]) (rng:=false) (it:= .attr (.loc 0) nOutputs) (g:= .elt (.tup [(.loc 0),(.comp 1 (.one 0) false (.loc 1) (.elt (.bm .get (.free 3) [(.loc 0),(.neg (.const (.int 1)))])))])) (m:=[some (.ref (L+1)),some (.ref pa),some (.int full),some (.ref r),none,none,none]) (c:=[]) (h:=h0) (h1:=h0) (x:= .ref (L+3)) (vs:=vo) (gd:=some (L+3,.list vo))
   (fun j c h acc=>(∃ x y,c=[x,y])∧Keep h0 h∧PortsW h acc (N.outputs.take j) W) (by simp only[QX,at0]) (zg _ _ _ o1) ⟨⟨none,none,rfl⟩,Keep.refl _,rfl,fun j p e=>by simp at e⟩ (fun j c h acc s=>by unfold guardOk;simp[s.2.1 _ _ o1])
   (fun j v c h acc hv s=>by
    obtain⟨⟨x,y,rfl⟩,s1,s2⟩:=s;have hj:=(gS.mp hv).1;rw[o2.1]at hj;obtain⟨a,b1,b2,b3⟩:=o2.2 j _ (getElem?_eq_getElem hj);have ht:N.outputs.take (j+1)=N.outputs.take j++[N.outputs[j]]:=by rw[take_add_one,getElem?_eq_getElem hj];rfl
    have hpl:=g.small.po _ (getElem_mem hj);have hdr:∀ x∈N.outputs[j].2,x∈S:=fun x hx=>w5 x (g.drvO x (mem_flatMap.mpr ⟨_,getElem_mem hj,hx⟩))
    generalize N.outputs[j]=p at *;rw[hv]at b2;cases b2;have b4:=s1 _ _ b3;have hc:=wget_comp (cl:=cl) (m:=[some (.ref (L+1)),some (.ref pa),some (.int full),some (.ref r),none,none,none]) (c:=[some (.str p.1),some (.ref a)]) (it:= .loc 1) (w3.keep s1) (fun h=>by simp only[QX]) (by simp only[QX]) (zg _ _ _ b4) (by unfold guardOk;simp[b4]) (by omega) hdr
    refine⟨[some (.str p.1),some (.ref a)],_,_,_,by simp only[QX],evG_elt (evE_tup (zm (v:= .str p.1) (h1:=h) (by simp only[QX]) (zm hc evL_nil))) (by rw[s2.1,length_take];omega),⟨_,_,rfl⟩,s1.snoc _,?_⟩
    rw[ht];exact (s2.keep (Keep.push h _)).snoc ze)
  rw[o2.1,take_length]at s3;refine zb (m1:=[some (.ref (L+1)),some (.ref pa),some (.int full),some (.ref r),some (.ref h1.length),none,none]) e1 (by simp only[QX]) ?_
  have k1:Keep h0 (h1++[.list acc]):=s2.snoc _;have s4:=s3.keep (Keep.push h1 [.list acc]);have g1:(h1++[AO.list acc])[h1.length]? =some (.list acc):=ze;generalize h1.length=pr at *;generalize h1++[AO.list acc]=h2 at *;refine zb (v:= .ref h2.length) (h1:=h2++[.dict []]) (m1:=[some (.ref (L+1)),some (.ref pa),some (.int full),some (.ref r),some (.ref pr),some (.ref h2.length),none]) (by simp only[QX,pairUp];rfl) (by simp only[QX]) ?_
  have k2:=Keep.push h2 [.dict []];have k3:=k1.trans k2;have d3:(h2++[AO.dict []])[h2.length]? =some (.dict []):=ze;have hsd:h2.length<(h2++[AO.dict []]).length:=by simp
  have kk:Keep h2 (h2++[AO.dict []]):=k2;generalize hsdd:h2.length=sd at *;generalize h2++[AO.dict []]=h3 at *;obtain⟨sa,h4,b1,b2,b3,b4⟩:=hst h3 (q0.keep k3);refine ok_for (x:= .ref sa) (vs:=(sts N.cells).map Cell.v) (gd:=some (sa,.list ((sts N.cells).map Cell.v))) (h1:=h4) (fun j m h=>(∃ w,m=[some (.ref (L+1)),some (.ref pa),some (.int full),some (.ref r),some (.ref pr),some (.ref sd),w])∧Keep h2 h∧h[sa]? =some (.list ((sts N.cells).map Cell.v))∧∃ es,h[sd]? =some (.dict es)∧StatesW h es ((sts N.cells).take j) W)
   (zi (vs:=[.ref (L+1)]) (h1:=h3) (by simp only[QX]) b1) (zg _ _ _ b4) ⟨⟨none,rfl⟩,kk.trans b2,b4,[],b2 _ _ d3,rfl,fun j c e=>by simp at e⟩ (fun j m h _ s=>by unfold guardOk;simp[s.2.2.1]) ?_ ?_
  ·rintro j v m h hv ⟨⟨w,rfl⟩,a1,a2,es,a3,a4⟩
   have hj:=(gS.mp hv).1;rw[length_map]at hj;have hcj:(sts N.cells)[j]? =some (sts N.cells)[j]:=getElem?_eq_getElem hj;rw[getElem?_map,hcj]at hv;have hcm:=getElem_mem hj;have htk:=zv hcj;have hnm:∀ c∈(sts N.cells).take j,pname c.param≠pname (sts N.cells)[j].param:=by
    intro c hc e;obtain⟨i,hi⟩:=getElem?_of_mem hc;have hil:=(gS.mp hi).1;rw[length_take]at hil;rw[getElem?_take_of_lt (by omega)]at hi
    have h1:(zu N.cells)[i]? =some (pname c.param):=by rw[stNames_sts,getElem?_map,hi];rfl
    have h2:(zu N.cells)[j]? =some (pname c.param):=by rw[stNames_sts,getElem?_map,hcj,e];rfl
    have:=nodup_idx g.nmz h1 h2;omega
   generalize (sts N.cells)[j]=c at *;simp only[Option.map_some,Option.some.injEq]at hv;subst hv;have hil:=stOk_len (sts_ok g c hcm);have hss:=stOk_sub (sts_ok g c hcm) (h:=h);have hdr:∀ x∈c.ins,x∈S:=fun x hx=>w5 x (g.drv c (sts_mem.mp hcm).1 x hx)
   refine⟨[some (.ref (L+1)),some (.ref pa),some (.int full),some (.ref r),some (.ref pr),some (.ref sd),some c.v],by simp only[QX],?_⟩
   have hc:=wget_comp (cl:=cl) (m:=[some (.ref (L+1)),some (.ref pa),some (.int full),some (.ref r),some (.ref pr),some (.ref sd),some c.v]) (c:=[]) (it:= .sub (.loc 6) (.const (.int 2))) (h:=h) (x:= .tup (za c.ins)) (w3.keep (k1.trans a1)) (fun h=>by simp only[QX]) (by unfold Cell.v;simp only[QX]) rfl rfl (by omega) hdr
   have a3':=Keep.push h [.list (zf (c.ins.map W))] _ _ a3;have hss2:=stOk_sub (sts_ok g c hcm) (h:=h++[.list (zf (c.ins.map W))]);have hfind:dfind es (.str (pname c.param))=none:=dfNone (fun p hp e=>by
    obtain⟨i,hi⟩:=getElem?_of_mem hp;have hl:=(gS.mp hi).1;rw[a4.1]at hl;obtain⟨a',e1,_⟩:=a4.2 i _ (getElem?_eq_getElem hl);rw[hi]at e1;cases e1;injection e with e
    exact hnm _ (getElem_mem hl) e)
   refine zw (v:= .tup [.str c.kind,c.param,.ref h.length]) (x:= .ref sd) (y:= .str (pname c.param)) (h1:=h++[.list (zf (c.ins.map W))]) (h2:=h++[.list (zf (c.ins.map W))]) (h3:=h++[.list (zf (c.ins.map W))]) (h4:=(h++[AO.list (zf (c.ins.map W))]).set sd (AO.dict (es++[(.str (pname c.param),.tup [.str c.kind,c.param,.ref h.length])])))
    (evE_tup (zm (v:= .str c.kind) (h1:=h) (by unfold Cell.v;simp only[QX]) (zm (v:=c.param) (h1:=h) (by unfold Cell.v;simp only[QX]) (zm hc evL_nil)))) (by simp only[QX]) (by
     have:evE cl (.sub (.loc 6) (.const (.int 3))) [some (.ref (L+1)),some (.ref pa),some (.int full),some (.ref r),some (.ref pr),some (.ref sd),some c.v] [] (h++[.list (zf (c.ins.map W))])=some (c.param,h++[.list (zf (c.ins.map W))]):=by unfold Cell.v;simp only[QX]
     have h2':evE cl (.neg (.const (.int 2))) [some (.ref (L+1)),some (.ref pa),some (.int full),some (.ref r),some (.ref pr),some (.ref sd),some c.v] [] (h++[.list (zf (c.ins.map W))])=some (.int (-2),h++[.list (zf (c.ins.map W))]):=by simp only[QX]
     exact evE_sub this h2' hss2) (by
     simp only[setSubV,a3'];rw[if_pos ⟨rfl,Nat.lt_of_le_of_lt (Nat.le_of_eq a4.1) (zp (by rw[length_take];omega))⟩,dpNew hfind]) (zn ⟨by simp,⟨_,rfl⟩,?_,?_,_,zB _ _ _ (gS.mp a3').1,?_⟩)
   ·exact (a1.snoc _).set (by omega)
   ·have:sd≠sa:=by intro e;rw[e,a2]at a3;cases a3
    rw[getElem?_set_ne this];exact Keep.push _ _ _ _ a2
   ·rw[htk]
    have hsl2:=(gS.mp a3).1;have key:∀ (b:Nat) (l:List AV),(h++[AO.list (zf (c.ins.map W))])[b]? =some (AO.list l)→((h++[AO.list (zf (c.ins.map W))]).set sd (AO.dict (es++[(.str (pname c.param),.tup [.str c.kind,c.param,.ref h.length])])))[b]? =some (AO.list l):=by
     intro b l hb;rw[getElem?_set_ne]
     ·exact hb
     ·intro e;rw[← e,a3']at hb;cases hb
    refine StatesW.snoc ⟨a4.1,fun i c' hc'=> ?_⟩ (key _ _ ze)
    obtain⟨a',e1,e2⟩:=a4.2 i c' hc';exact⟨a',e1,key _ _ (Keep.push _ _ _ _ e2)⟩
  ·rintro m h ⟨⟨w,rfl⟩,a1,a2,es,a3,a4⟩
   rw[length_map,take_length]at a4;exact zA (v:= .tup [.ref pr,.ref sd]) (h1:=h) (by simp only[QX]) (Or.inl ⟨_,rfl,pr,sd,acc,es,W,rfl,(w2.trans k1).trans a1,a1 _ _ g1,s4.keep a1,a3,a4,w4⟩)
 exact⟨a,b,vs,es,W,H',e,r⟩
theorem evB_false{cl:Caller}{m c:Loc}{h:Hp}:∀ (es:List E),es≠[]→(∀ e∈es,evE cl e m c h=some (.bool false,h))→evB cl false es m c h=some (.bool false,h)
 | [],hn,_=>absurd rfl hn
 | [e],_,hs=>by rw[evB];exact hs e (by simp)
 | e::f::es,_,hs=>by
  rw[evB]
  ·simp only[hs e (by simp),Option.bind_eq_bind,Option.bind_some,truthy,if_true]
   exact evB_false (f::es) (by simp) (fun x hx=>hs x (by simp at hx ⊢;exact Or.inr hx))
  ·simp
theorem evE_or{cl:Caller}{m c:Loc}{h:Hp}{es:List E}(hn:es≠[])(hs:∀ e∈es,evE cl e m c h=some (.bool false,h)):evE cl (.bop false es) m c h=some (.bool false,h):=by
 rw[evE];exact evB_false es hn hs
theorem evE_and2{cl:Caller}{m c:Loc}{h:Hp}{a b:E}{x:Bool}(h1:evE cl a m c h=some (.bool true,h))(h2:evE cl b m c h=some (.bool x,h)):evE cl (.bop true [a,b]) m c h=some (.bool x,h):=by
 rw[evE];simp only[evB,h1,h2,Option.bind_eq_bind,Option.bind_some,truthy,if_true]
theorem evE_andF{cl:Caller}{m c:Loc}{h:Hp}{a b:E}(h1:evE cl a m c h=some (.bool false,h)):evE cl (.bop true [a,b]) m c h=some (.bool false,h):=by
 rw[evE];simp only[evB,h1,Option.bind_eq_bind,Option.bind_some,truthy,Bool.false_eq_true,if_false]
theorem eqV_of{h:Hp}{a b:AV}{x y:D}(h1:res h eqFuel a=some x)(h2:res h eqFuel b=some y)(e:x=y):eqV h a b=some true:=by
 unfold eqV;simp only[h1,h2,e,decide_true]
structure Kept(No Nn:NL)(W W':Int→Nat):Prop where
 o:(Nn.outputs.map (portW W'))=(No.outputs.map (portW W))
 i:Nn.inputs=No.inputs
 n:Nn.name=No.name
 s:∀ c'∈sts Nn.cells,∃ c∈sts No.cells,pname c.param=pname c'.param∧c.kind=c'.kind∧c.param=c'.param∧c.ins.map W=c'.ins.map W'
theorem res_param{k:Nm}{l:Nat}{p:AV}{h:Hp}{n:Nat}(ok:StOk k l p):∃ d,res h (n+2) p=some d:=by
 cases ok with
 | flop e i nm=>exact ⟨_,res_tup (mapM3 (by rfl) (by rfl) (by rfl))⟩
 | latch i nm=>exact ⟨_,res_tup (mapM2 (by rfl) (by rfl))⟩
theorem kept_s{n Lo Ln pa rows:Nat}{No Nn:NL}{H:Hp}{pat:AV→Nat}{ks:List AV}(qo:NetA H Lo No)(qn:NetA H Ln Nn)(go:Good No)(gn:Good Nn)(hp:PatAt H pa pat ks rows)(hko:∀ k∈keysOf No,k∈ks)(hkn:∀ k∈keysOf Nn,k∈ks)
  (hk:∀ W W',Sat No pat rows W→Sat Nn pat rows W'→Kept No Nn W W'):∃ H',callF P 1000 (n+5) 49 [.ref (Lo+1),.ref (Ln+1),.ref pa,.int (2 ^ rows - 1:Nat)] H=some (.bool true,H')∧Keep H H':=by
 obtain⟨v,H',e,rfl,r⟩:∃ v H',callF P 1000 (n+5) 49 [.ref (Lo+1),.ref (Ln+1),.ref pa,.int (2 ^ rows - 1:Nat)] H=some (v,H')∧v= .bool true∧Keep H H':=by
  refine zF (fn:=f_law_kept) rfl rfl ?_
  unfold f_law_kept;obtain⟨a,b,vs,es,W,h1,a1,a2,a3,a4,a5,a6,a7⟩:=sinks_s (n:=n) qo go hp hko;obtain⟨a',b',vs',es',W',h2,b1,b2,b3,b4,b5,b6,b7⟩:=sinks_s (n:=n) (qn.keep a2) gn (hp.keep a2) hkn;have kp:=hk W W' a7 b7;generalize callF P 1000 (n+4)=cl at *;generalize 2 ^ rows - 1=full at *;simp only[SA,Nat.reduceSub,SN,SK];refine zb (v:= .tup [.ref a,.ref b]) (h1:=h1) (m1:=[some (.ref (Lo+1)),some (.ref (Ln+1)),some (.ref pa),some (.int full),some (.ref a),some (.ref b),none,none]) (zi (vs:=[.ref (Lo+1),.ref pa,.int full]) (h1:=H) (by simp only[QX]) a1) (by simp only[QX]) ?_
  refine zb (v:= .tup [.ref a',.ref b']) (h1:=h2) (m1:=[some (.ref (Lo+1)),some (.ref (Ln+1)),some (.ref pa),some (.int full),some (.ref a),some (.ref b),some (.ref a'),some (.ref b')]) (zi (vs:=[.ref (Ln+1),.ref pa,.int full]) (h1:=h1) (by simp only[QX]) b1) (by simp only[QX]) ?_
  have qo2:=(qo.keep a2).keep b2;have qn2:=(qn.keep a2).keep b2;have ato:=qo2.attr;have atn:=qn2.attr;obtain⟨vo,o1,o2⟩:=qo2.inp;obtain⟨vn,n1,n2⟩:=qn2.inp;have eq1:eqV h2 (.ref a') (.ref a)=some true:=eqV_of (res_portsW (n:=19) b4 b3) (res_portsW (n:=19) (a4.keep b2) (b2 _ _ a3)) (by rw[kp.o])
  have eq2:eqV h2 (.ref (Ln+2)) (.ref (Lo+2))=some true:=eqV_of (res_ports (n:=19) n2 n1) (res_ports (n:=19) o2 o1) (by rw[kp.i])
  have eq3:eqV h2 (.str Nn.name) (.str No.name)=some true:=by rw[eqV_str,kp.n];simp
  refine ok_skip (h1:=h2) (tst_of' (evE_or (by simp) (fun e he=> ?_))) ?_
  ·simp only[mem_cons,not_mem_nil,or_false]at he
   rcases he with rfl | rfl | rfl
   ·simp only[QX,eq1,Bool.not_true]
   ·simp only[QX,ato,atn,eq2,Bool.not_true]
   ·have:decide (Nn.name=No.name)=true:=by rw[kp.n];simp
    simp only[QX,ato,atn,this,Bool.not_true]
  ·have hnl:es'.length≤1000:=by have:=b6.1;have:=sts_len Nn.cells;have:=gn.small.cc;omega
   have hsk:es'.all isStrKey=true:=by
    rw[List.all_eq_true];intro p hp;obtain⟨i,hi⟩:=getElem?_of_mem hp;have hl:=(gS.mp hi).1;rw[b6.1]at hl;obtain⟨x,e1,_⟩:=b6.2 i _ (getElem?_eq_getElem hl);rw[hi]at e1;cases e1;rfl
   have hit:itemsOf h2 false (.ref b')=some (es'.map (·.1),some (b',.dict es')):=by
    unfold itemsOf;simp only[b5,hsk,if_true]
   have a6':=a6.keep b2;have hcmp:=comp_map (cl:=cl) (rng:=false) (it:= .loc 7) (e:= .bop true [(.cmp .in_ (.loc 0) (.free 5)),(.cmp .eq (.sub (.free 7) (.loc 0)) (.sub (.free 5) (.loc 0)))]) (m:=[some (.ref (Lo+1)),some (.ref (Ln+1)),some (.ref pa),some (.int full),some (.ref a),some (.ref b),some (.ref a'),some (.ref b')]) (c:=[]) (h:=h2) (h1:=h2) (x:= .ref b') (fun _=> .bool true) (by simp only[QX]) hit (by unfold guardOk;simp[b5]) (by rw[length_map];exact hnl) (fun v hv=>by
    obtain⟨p,hp,rfl⟩:=mem_map.mp hv;obtain⟨i,hi⟩:=getElem?_of_mem hp;have hl:=(gS.mp hi).1;rw[b6.1]at hl;obtain⟨x,e1,e2⟩:=b6.2 i _ (getElem?_eq_getElem hl);rw[hi]at e1;cases e1;have hcm:=getElem_mem hl;have hok:=sts_ok gn _ hcm;obtain⟨c,hc,c1,c2,c3,c4⟩:=kp.s _ hcm;obtain⟨y,f1,f2⟩:=a6'.find (by rw[← stNames_sts];exact go.nmz) hc
    obtain⟨y',g1,g2⟩:=b6.find (by rw[← stNames_sts];exact gn.nmz) hcm
    generalize (sts Nn.cells)[i]=c' at *;rw[c1]at f1;obtain⟨dp,hdp⟩:=res_param (h:=h2) (n:=21) hok;have hin:containsV h2 (.str (pname c'.param)) (.ref b)=some true:=by
     simp only[containsV,b2 _ _ a5,isKey,if_true,f1,Option.isSome_some]
    have hs1:subV h2 (.ref b') (.str (pname c'.param))=some (.tup [.str c'.kind,c'.param,.ref y']):=by simp only[subV,b5,isKey,if_true,g1]
    have hs2:subV h2 (.ref b) (.str (pname c'.param))=some (.tup [.str c.kind,c.param,.ref y]):=by simp only[subV,b2 _ _ a5,isKey,if_true,f1]
    have heq:eqV h2 (.tup [.str c'.kind,c'.param,.ref y']) (.tup [.str c.kind,c.param,.ref y])=some true:=by
     rw[c2,c3];exact eqV_of (res_tup (n:=23) (mapM3 (by rfl) hdp (res_ref (n:=22) g2 (res_nats _)))) (res_tup (n:=23) (mapM3 (by rfl) hdp (res_ref (n:=22) f2 (res_nats _)))) (by rw[c4])
    refine evE_and2 ?_ ?_
    ·simp only[QX,hin]
    ·simp only[QX,hs1,hs2,heq])
   have hbl:(es'.map (·.1)).map (fun _=>AV.bool true)=(es'.map fun _=>true).map AV.bool:=by rw[map_map,map_map];rfl
   rw[hbl]at hcmp;have hcon:containsV (h2++[.list ((es'.map fun _=>true).map AV.bool)]) (.bool false) (.ref h2.length)=some (decide (false∈es'.map fun _=>true)):=by
    unfold containsV;simp only[zE];exact anyEq_bool
   have hnf:decide (false∈es'.map fun _=>true)=false:=by simp
   rw[hnf]at hcon;refine zA (v:= .bool true) (h1:=h2++[.list ((es'.map fun _=>true).map AV.bool)]) (evE_cmp (x:= .bool false) (y:= .ref h2.length) (h1:=h2) (by simp only[QX]) hcmp (by simp only[QX,hcon,Bool.not_false])) (Or.inl ⟨_,rfl,rfl,(a2.trans b2).snoc _⟩)
 exact⟨H',e,r⟩
theorem dedup_fold:∀ (l acc:List Int),(acc++l).Nodup→l.foldl (fun acc x=>if acc.any (· == x) then acc else acc++[x]) acc=acc++l:=by
 intro l;induction l with
 | nil=>intro acc _;simp
 | cons a l ih=>
  intro acc h;have ha:acc.any (· == a)=false:=by
   rw[List.any_eq_false];intro x hx;rw[nodup_append]at h;have:=h.2.2 x hx a (by simp)
   simpa using this
  rw[foldl_cons,if_neg (by rw[ha];simp),ih (acc++[a]) (by rw[append_assoc];exact h),append_assoc]
  rfl
theorem dedup_nodup{l:List Int}(h:l.Nodup):dedupLen l=l.length:=by
 unfold dedupLen dedup;rw[dedup_fold l [] (by simpa using h)];rfl
theorem min_fold:∀ (l:List Int) (m:Int),2≤m→(∀ x∈l,2≤x)→2≤l.foldl (fun m x=>if x<m then x else m) m:=by
 intro l;induction l with
 | nil=>intro m h _;exact h
 | cons a l ih=>
  intro m h hs;rw[foldl_cons];refine ih _ ?_ (fun x hx=>hs x (by simp[hx]))
  split
  ·exact hs a (by simp)
  ·exact h
theorem minL_ge{l:List Int}(hn:l≠[])(hs:∀ x∈l,2≤x):∃ m,minL l=some m∧2≤m:=by
 cases l with
 | nil=>exact absurd rfl hn
 | cons a l=>exact ⟨_,rfl,min_fold l a (hs a (by simp)) fun x hx=>hs x (by simp[hx])⟩
inductive NotFold:Nm→List Int→Prop where
 | lut (l:List Int):l.Nodup→(∀ x∈l,2≤x)→2≤l.length→l.length≤3→NotFold kLut l
 | cell (l:List Int):NotFold kCell l
 | flop (l:List Int):NotFold kFlop l
 | latch (l:List Int):NotFold kLatch l
 | mux (s a b:Int):2≤s→a≠b→¬ (a<2∧b<2)→NotFold kMux [s,a,b]
 | gate (k:Nm) (a b:Int):k∈gates→2≤a→2≤b→a≠b→NotFold k [a,b]
 | not (a:Int):2≤a→NotFold kNot [a]
theorem bi_min1{h:Hp}{l:List Int}{m:Int}(e:minL l=some m):biV h .min1 [.tup (za l)]=some (.int m,h):=by
 unfold biV;simp only[intsOf_ints,e,Option.bind_eq_bind,Option.bind_some,Option.pure_def]
theorem bi_lenset{h:Hp}{l:List Int}(hl:l.length<100):biV h .lenset [.tup (za l)]=some (.int (dedupLen l:Nat),h):=by
 unfold biV;simp only;rw[if_pos (by rw[zk];exact hl),intsOf_ints];rfl
theorem foldable_s{W n:Nat}{c:Cell}{H:Hp}(nf:NotFold c.kind c.ins):∃ T,callF P W (n+1) 50 [c.v] H=some (.bool false,H++T):=by
 obtain⟨v,H',e,rfl,T,rfl⟩:∃ v H',callF P W (n+1) 50 [c.v] H=some (v,H')∧v= .bool false∧∃ T,H'=H++T:=by
  refine zF (fn:=f_law_foldable) rfl rfl ?_
  unfold f_law_foldable;generalize callF P W n=cl;simp only[SA,Nat.reduceSub,SK];obtain⟨k,o,l,p⟩:=c;simp only at nf;refine zb (v:=Cell.v ⟨k,o,l,p⟩) (h1:=H) (m1:=[some (Cell.v ⟨k,o,l,p⟩),some (.str k),some (.int o),some (.tup (za l)),some p]) (by simp only[QX]) (by unfold Cell.v;simp only[QX]) ?_
  generalize Cell.v ⟨k,o,l,p⟩=cv;refine ok_if (c:=decide (k∈[kLut,kCell,kFlop,kLatch])) (h1:=H++[.list ([kLut,kCell,kFlop,kLatch].map .str)]) (tst_of' (in_strs (k:=k) (l:=[kLut,kCell,kFlop,kLatch]) (by simp only[QX]) (by simp only[QX];rfl))) ?_ ?_
  ·intro _
   generalize hHH:H++[AO.list ([kLut,kCell,kFlop,kLatch].map .str)]=h;refine zA (v:= .bool false) (h1:=h) ?_ ⟨fun e=>by simp at e,fun _=>Or.inl ⟨_,rfl,rfl,_,hHH.symm⟩⟩
   by_cases hk:k=kLut
   ·generalize hK:k=K at nf
    cases nf with
    | lut l h1 h2 h3 h4=>
     obtain⟨m,m1,m2⟩:=minL_ge (l:=l) (fun e=>by rw[e]at h3;simp at h3) h2
     have hd:=dedup_nodup h1;refine evE_and2 (by simp only[QX,hK]) (evE_or (by simp) (fun e he=> ?_))
     simp only[mem_cons,not_mem_nil,or_false]at he;have t1:decide (((dedupLen l:Nat):Int)<((l.length:Nat):Int))=false:=by rw[hd];simp
     have t2:decide (m<2)=false:=by rw[decide_eq_false_iff_not];omega
     have t3:decide (((l.length:Nat):Int)<2)=false:=by rw[decide_eq_false_iff_not];omega
     rcases he with rfl | rfl | rfl
     ·simp only[QX,bi_lenset (h:=h) (l:=l) (by omega),zk,t1]
     ·simp only[QX,bi_min1 (h:=h) m1,t2]
     ·simp only[QX,zk,t3]
    | gate k a b hg=>rw[← hK,hk]at hg;exact absurd hg (by decide)
    | _=>rw[hk]at hK;exact absurd hK (by decide)
   ·have:decide (k=kLut)=false:=by simpa using hk
    exact evE_andF (by simp only[QX,this])
  ·intro hnk
   have hnk:=of_decide_eq_false hnk;generalize hHH:H++[AO.list ([kLut,kCell,kFlop,kLatch].map .str)]=h;refine ok_end ?_
   refine ok_if (c:=decide (k=kMux)) (h1:=h) (by simp only[QX]) ?_ ?_
   ·intro hk
    have hk:=of_decide_eq_true hk;refine zA (v:= .bool false) (h1:=h) ?_ ⟨fun e=>by simp at e,fun _=>Or.inl ⟨_,rfl,rfl,_,hHH.symm⟩⟩
    generalize hK:k=K at nf;cases nf with
    | mux s a b h1 h2 h3=>
     have t1:decide (s<2)=false:=by rw[decide_eq_false_iff_not];omega
     have t2:decide (a=b)=false:=by simpa using h2
     refine evE_or (by simp) (fun e he=> ?_)
     simp only[mem_cons,not_mem_nil,or_false]at he;rcases he with rfl | rfl | rfl
     ·simp only[QX,za,map_cons,t1]
     ·simp only[QX,za,map_cons,t2]
     ·by_cases ha:a<2
      ·have t3:decide (a<2)=true:=by simpa using ha
       have t4:decide (b<2)=false:=by rw[decide_eq_false_iff_not];exact fun q=>h3 ⟨ha,q⟩
       exact evE_and2 (by simp only[QX,za,map_cons,t3]) (by simp only[QX,za,map_cons,t4])
      ·have t3:decide (a<2)=false:=by simpa using ha
       exact evE_andF (by simp only[QX,za,map_cons,t3])
    | gate k a b hg=>rw[← hK,hk]at hg;exact absurd hg (by decide)
    | _=>rw[hk]at hK;exact absurd hK (by decide)
   ·intro hk
    have hk:=of_decide_eq_false hk;refine ok_end ?_
    refine zA (v:= .bool false) (h1:=h) (evE_or (by simp) (fun e he=> ?_)) (Or.inl ⟨_,rfl,rfl,_,hHH.symm⟩)
    simp only[mem_cons,not_mem_nil,or_false]at he;generalize hK:k=K at nf;cases nf with
    | lut l=>exact absurd (by rw[hK];simp) hnk
    | cell l=>exact absurd (by rw[hK];simp) hnk
    | flop l=>exact absurd (by rw[hK];simp) hnk
    | latch l=>exact absurd (by rw[hK];simp) hnk
    | mux s a b=>exact absurd hK hk
    | gate k a b hg h1 h2 h3=>
     have t0:decide (K=kBuf)=false:=by
      rw[decide_eq_false_iff_not];intro e;rw[e]at hg;exact absurd hg (by decide)
     obtain⟨m,m1,m2⟩:=minL_ge (l:=[a,b]) (by simp) (fun x hx=>by simp at hx;rcases hx with rfl | rfl<;>assumption)
     have t2:decide (m<2)=false:=by rw[decide_eq_false_iff_not];omega
     have t3:decide (a=b)=false:=by simpa using h3
     rcases he with rfl | rfl | rfl
     ·simp only[QX,t0]
     ·simp only[QX,bi_min1 (h:=h) m1,t2]
     ·exact evE_and2 (by simp only[QX,zk,length_cons,length_nil];rfl) (by simp only[QX,za,map_cons,t3])
    | not a h1=>
     obtain⟨m,m1,m2⟩:=minL_ge (l:=[a]) (by simp) (fun x hx=>by simp at hx;rw[hx];exact h1)
     have t2:decide (m<2)=false:=by rw[decide_eq_false_iff_not];omega
     have t0:decide (kNot=kBuf)=false:=by decide
     rcases he with rfl | rfl | rfl
     ·simp only[QX,t0]
     ·simp only[QX,bi_min1 (h:=h) m1,t2]
     ·exact evE_andF (by simp only[QX,zk,length_cons,length_nil];rfl)
 exact⟨T,e⟩
def ClosedW(N:NL)(Wn:List Int):Prop:=∀ c∈N.cells,c.out∈Wn→∀ x∈c.ins,x∈Wn
def cntW(N:NL)(Wn:List Int):Nat:=N.cells.countP fun c=>decide (c.out∈Wn)
theorem countP_eq_imp{p q:Cell→Bool}:∀ l:List Cell,(∀ a∈l,p a=true→q a=true)→l.countP p=l.countP q→∀ a∈l,q a=true→p a=true:=by
 intro l;induction l with
 | nil=>intro _ _ a ha;simp at ha
 | cons a l ih=>
  intro h1 h2;have hm:l.countP p≤l.countP q:=countP_mono_left fun x hx=>h1 x (by simp[hx])
  rw[countP_cons,countP_cons]at h2;have ha:=h1 a (by simp)
  have key:(q a=true→p a=true)∧l.countP p=l.countP q:=by
   cases hp:p a<;>cases hq:q a<;>simp_all<;>omega
  intro x hx hq;rw[mem_cons]at hx;rcases hx with rfl | hx
  ·exact key.1 hq
  ·exact ih (fun y hy=>h1 y (by simp[hy])) key.2 x hx hq
structure PassInv(N:NL)(W0:List Int)(k:Nat)(Wn:List Int):Prop where
 sub:∀ x∈W0,x∈Wn
 done:∀ c∈N.cells.take k,c.out∈W0→∀ x∈c.ins,x∈Wn
 stay:ClosedW N W0→∀ x∈Wn,x∈W0
 min:∀ C,Closed N C→(∀ x∈W0,∀ b,drvs N.cells x=some b→C b)→∀ x∈Wn,∀ b,drvs N.cells x=some b→C b
theorem drvs_spec{l:List Cell}{x:Int}{b:Nat}(h:drvs l x=some b):b<l.length∧(cA l b).out=x:=by
 unfold drvs at h;obtain⟨hl,h1,_⟩:=findIdx?_eq_some_iff_getElem.mp h;refine⟨hl,?_⟩
 rw[cA_get (getElem?_eq_getElem hl)];simpa using h1
theorem drvs_out{l:List Cell}(hn:(l.map (·.out)).Nodup){i:Nat}(hi:i<l.length):drvs l (cA l i).out=some i:=by
 cases h:drvs l (cA l i).out with
 | none=>
  unfold drvs at h;rw[findIdx?_eq_none_iff]at h;have:=h _ (cA_mem hi);simp at this
 | some b=>
  obtain⟨h1,h2⟩:=drvs_spec h;congr 1
  have e1:(l.map (·.out))[b]? =some (cA l i).out:=by rw[getElem?_map,get_cA h1,← h2];rfl
  have e2:(l.map (·.out))[i]? =some (cA l i).out:=by rw[getElem?_map,get_cA hi];rfl
  have hb':b<(l.map (·.out)).length:=by rw[length_map];exact h1
  exact (getElem?_inj hb' hn).mp (e1.trans e2.symm)
theorem PassInv.init(N:NL)(W0:List Int):PassInv N W0 0 W0:=⟨fun _ h=>h,fun c hc=>by simp at hc,fun _ _ h=>h,fun _ _ h=>h⟩
theorem PassInv.skip{N:NL}{W0 Wn:List Int}{k:Nat}{c:Cell}(p:PassInv N W0 k Wn)(hc:N.cells[k]? =some c)(h:c.out∉Wn):PassInv N W0 (k+1) Wn:=
 ⟨p.sub,fun d hd ho=>by
  rw[zv hc,mem_append,mem_singleton]at hd;rcases hd with hd | rfl
  ·exact p.done d hd ho
  ·exact absurd (p.sub _ ho) h,p.stay,p.min⟩
theorem PassInv.add{N:NL}{W0 Wn:List Int}{k:Nat}{c:Cell}(p:PassInv N W0 k Wn)(hn:(outs N).Nodup)(hc:N.cells[k]? =some c)(h:c.out∈Wn):PassInv N W0 (k+1) (Wn++c.ins.filter fun x=>decide (x∉Wn)):=by
 have hmem:∀ x,x∈Wn++c.ins.filter (fun x=>decide (x∉Wn))↔x∈Wn∨x∈c.ins:=by
  intro x;rw[mem_append,mem_filter];constructor
  ·rintro (a | ⟨a,_⟩)
   ·exact Or.inl a
   ·exact Or.inr a
  ·rintro (a | a)
   ·exact Or.inl a
   ·by_cases q:x∈Wn
    ·exact Or.inl q
    ·exact Or.inr ⟨a,by simpa using q⟩
 have hcm:c∈N.cells:=mem_of_getElem? hc;have hkl:=(gS.mp hc).1;refine⟨fun x hx=>(hmem x).mpr (Or.inl (p.sub x hx)),fun d hd ho x hx=> ?_,fun hcl x hx=> ?_,fun C hC h0 x hx b hb=> ?_⟩
 ·rw[zv hc,mem_append,mem_singleton]at hd
  rw[hmem];rcases hd with hd | rfl
  ·exact Or.inl (p.done d hd ho x hx)
  ·exact Or.inr hx
 ·rcases (hmem x).mp hx with q | q
  ·exact p.stay hcl x q
  ·exact hcl c hcm (p.stay hcl _ h) x q
 ·rcases (hmem x).mp hx with q | q
  ·exact p.min C hC h0 x q b hb
  ·have hck:cA N.cells k=c:=cA_get hc
   have hd:=drvs_out hn hkl;rw[hck]at hd;have:=p.min C hC h0 c.out h k hd;exact hC.2 k this hkl x (by rw[hck];exact q) b hb
theorem PassInv.fin{N:NL}{W0 Wn:List Int}(p:PassInv N W0 N.cells.length Wn){t:Nat}(h:ClosedW N W0∨t≤cntW N W0):ClosedW N Wn∨t+1≤cntW N Wn:=by
 rcases h with h | h
 ·left
  intro c hc ho x hx;exact p.sub x (h c hc (p.stay h _ ho) x hx)
 ·by_cases hq:cntW N W0<cntW N Wn
  ·right;omega
  ·left
   have hm:cntW N W0≤cntW N Wn:=countP_mono_left fun c hc q=>by
    simp only[decide_eq_true_iff]at q ⊢;exact p.sub _ q
   have:=countP_eq_imp N.cells (p:=fun c=>decide (c.out∈W0)) (q:=fun c=>decide (c.out∈Wn)) (fun a ha q=>by
    simp only[decide_eq_true_iff]at q ⊢;exact p.sub _ q) (by unfold cntW at hm hq;omega)
   intro c hc ho x hx;have h2:=this c hc (by simpa using ho)
   exact p.done c (by rw[take_length];exact hc) (by simpa using h2) x hx
theorem used_same{N:NL}{Wn:List Int}{S:List Nat}(hn:(outs N).Nodup)(u:UsedOk N S)(h0:∀ x∈zd N.outputs,x∈Wn)(hmin:∀ C,Closed N C→∀ x∈Wn,∀ b,drvs N.cells x=some b→C b)(hc:ClosedW N Wn∨N.cells.length≤cntW N Wn):
  N.cells.filter (fun c=>decide (c.out∈Wn))=zj N.cells S:=by
 have key:∀ i,i<N.cells.length→((cA N.cells i).out∈Wn↔i∈S):=by
  intro i hi;constructor
  ·intro h
   exact hmin _ u.cl _ h i (drvs_out hn hi)
  ·intro h
   refine u.mn (fun i=>(cA N.cells i).out∈Wn) ⟨fun x hx b hb=> ?_,fun j hj hjl x hx b hb=> ?_⟩ i h
   ·show (cA N.cells b).out∈Wn
    rw[(drvs_spec hb).2];exact h0 x hx
   ·obtain⟨hb1,hb2⟩:=drvs_spec hb
    rcases hc with hc | hc
    ·show (cA N.cells b).out∈Wn
     rw[hb2];exact hc _ (cA_mem hjl) hj x hx
    ·have:cntW N Wn=N.cells.length:=Nat.le_antisymm countP_le_length hc
     unfold cntW at this;rw[countP_eq_length]at this;simpa using this _ (cA_mem hb1)
 unfold zj;have hl:N.cells=(List.range N.cells.length).map (cA N.cells):=by
  apply List.ext_getElem?
  intro j;rw[getElem?_map];by_cases hj:j<N.cells.length
  ·rw[getElem?_range hj,get_cA hj];rfl
  ·rw[getElem?_eq_none (by omega),getElem?_eq_none (by simp;omega)];rfl
 conv=>lhs;rw[hl]
 rw[filter_map];congr 1
 apply filter_congr
 intro i hi;rw[mem_range]at hi;simp only[Function.comp];rw[decide_eq_decide];exact key i hi
theorem big_len{n:Nat}(h:n≤100000):n<lenLid:=Nat.lt_of_le_of_lt h (by decide)
theorem add_lists2{h:Hp}{a b:Nat}{xs ys:List Int}(ha:h[a]? =some (.list (za xs)))(hb:h[b]? =some (.list (za ys)))(hl:xs.length+ys.length≤100000):binV h .add (.ref a) (.ref b)=some (.ref h.length,h++[.list (za (xs++ys))]):=by
 unfold binV;simp only[ha,hb];rw[if_pos (by rw[zk,zk];exact big_len hl),intsV_app]
theorem in_ints{h:Hp}{a:Nat}{x:Int}{l:List Int}(ha:h[a]? =some (.list (za l))):containsV h (.int x) (.ref a)=some (decide (x∈l)):=by
 unfold containsV;simp only[ha];exact anyEq_int
theorem nets_comp{cl:Caller}{m:Loc}{h:Hp}{L:Nat}{N:NL}(q:NetA h L N)(hs:Small N)(l0:∀ h,locG m 0 h=some (.ref (L+1),h)):evE cl (.comp 3 (.many [0,1]) false (.attr (.loc 0) nOutputs) (.for_ (.one 2) false (.loc 1) (.elt (.loc 2)))) m [] h=some (.ref h.length,h++[.list (za (zd N.outputs))]):=by
 obtain⟨vi,i1,i2⟩:=q.outp;have at0:=q.attr;obtain⟨c',h',acc,e,_,s2,s3⟩:=comp_st (cl:=cl) (k:=3) (t:= .many [0,1]) (rng:=false) (it:= .attr (.loc 0) nOutputs) (g:= .for_ (.one 2) false (.loc 1) (.elt (.loc 2))) (m:=m) (c:=[]) (h:=h) (h1:=h) (x:= .ref (L+3)) (vs:=vi) (gd:=some (L+3,.list vi))
  (fun j c h' acc=>(∃ x y z,c=[x,y,z])∧h'=h∧acc=za (zd (N.outputs.take j))) (by simp only[QX,l0,at0]) (zg _ _ _ i1) ⟨⟨none,none,none,rfl⟩,rfl,rfl⟩ (fun j c h' acc s=>by rw[s.2.1];unfold guardOk;simp[i1])
  (fun j v c h' acc hv s=>by
   obtain⟨⟨x,y,z,rfl⟩,rfl,rfl⟩:=s;have hj:=(gS.mp hv).1;rw[i2.1]at hj;obtain⟨a,b1,b2,b3⟩:=i2.2 j _ (getElem?_eq_getElem hj);have ht:N.outputs.take (j+1)=N.outputs.take j++[N.outputs[j]]:=by rw[take_add_one,getElem?_eq_getElem hj];rfl
   have hpl:=hs.po _ (getElem_mem hj);have hil:=hs.co;generalize N.outputs[j]=p at *;rw[hv]at b2;cases b2;have hkl:(zd (N.outputs.take j)).length≤400:=by
    have:=netsOf_len (l:=N.outputs.take j) (fun p hp=>hs.po p (mem_of_mem_take hp))
    rw[length_take]at this;omega
   obtain⟨c2,h2,acc2,e2,⟨z',hz⟩,hh,hacc⟩:=evG_for (cl:=cl) (t:= .one 2) (rng:=false) (it:= .loc 1) (g:= .elt (.loc 2)) (m:=m) (c:=[some (.str p.1),some (.ref a),z]) (h:=h') (h1:=h') (acc:=za (zd (N.outputs.take j))) (x:= .ref a) (gd:=some (a,.list (za p.2)))
    (fun i c h2 acc=>(∃ z,c=[some (.str p.1),some (.ref a),z])∧h2=h'∧acc=za (zd (N.outputs.take j)++p.2.take i)) (by simp only[QX]) (zg _ _ _ b3) ⟨⟨z,rfl⟩,rfl,by simp⟩ (fun j c h' acc s=>by rw[s.2.1];unfold guardOk;simp[b3])
    (fun i v c h2 acc hv s=>by
     obtain⟨⟨z,rfl⟩,rfl,rfl⟩:=s;have hi:=(gS.mp hv).1;rw[zk]at hi;have hpi:p.2[i]? =some p.2[i]:=getElem?_eq_getElem hi;rw[getElem?_map,hpi]at hv;have htk:=zv hpi;generalize p.2[i]=x at *;simp only[Option.map_some,Option.some.injEq]at hv;subst hv;exact⟨[some (.str p.1),some (.ref a),some (.int x)],_,_,_,by simp only[QX],evG_elt (v:= .int x) (by simp only[QX]<;>rfl) (by rw[zk,length_append,length_take];omega),⟨_,rfl⟩,rfl,by rw[htk,← append_assoc];unfold za;rw[map_append (l₂:=[x])];rfl⟩)
   refine⟨[some (.str p.1),some (.ref a),z],c2,h2,acc2,by simp only[QX],e2,⟨_,_,_,hz⟩,hh,?_⟩
   rw[hacc,ht,zk,take_length];unfold zd;rw[flatMap_append,flatMap_cons,flatMap_nil,append_nil])
 rw[i2.1,take_length]at s3;rw[e,s2,s3]
theorem used_s{n L:Nat}{N:NL}{H:Hp}{S:List Nat}(q:NetA H L N)(hs:Small N)(hn:(outs N).Nodup)(u:UsedOk N S):∃ a H',callF P 1000 (n+1) 51 [.ref (L+1)] H=some (.ref a,H')∧Keep H H'∧H'[a]? =some (.list ((zj N.cells S).map Cell.v)):=by
 obtain⟨v,H',e,a,rfl,r⟩:∃ v H',callF P 1000 (n+1) 51 [.ref (L+1)] H=some (v,H')∧∃ a,v= .ref a∧Keep H H'∧H'[a]? =some (.list ((zj N.cells S).map Cell.v)):=by
  refine zF (fn:=f_law_used) rfl rfl ?_
  unfold f_law_used;generalize callF P 1000 n=cl;simp only[SA,Nat.reduceSub,SN,SK];have hcc:=hs.cc;have hnl:=netsOf_len (l:=N.outputs) hs.po;have hco:=hs.co;refine zb (m1:=[some (.ref (L+1)),some (.ref H.length),none,none]) (nets_comp q hs (fun h=>by simp only[QX])) (by simp only[QX]) ?_
  have k0:Keep H (H++[.list (za (zd N.outputs))]):=Keep.push _ _;have g0:(H++[AO.list (za (zd N.outputs))])[H.length]? =some (.list (za (zd N.outputs))):=ze;generalize H++[AO.list (za (zd N.outputs))]=h0 at *;have q0:=q.keep k0;have at0:=q0.attr;refine ok_range (n:=N.cells.length) (h1:=h0) (fun t m h=>∃ Wn a x2 x3,m=[some (.ref (L+1)),some (.ref a),x2,x3]∧Keep H h∧h[a]? =some (.list (za Wn))∧Wn.length≤400+400 * t∧(∀ x∈zd N.outputs,x∈Wn)∧(∀ C,Closed N C→∀ x∈Wn,∀ b,drvs N.cells x=some b→C b)∧(ClosedW N Wn∨t≤cntW N Wn))
   (by simp only[QX,at0,bi_len q0.cel,length_map]) (by omega) ⟨zd N.outputs,H.length,none,none,rfl,k0,g0,by omega,fun x hx=>hx,fun C hC x hx b hb=>hC.1 x hx b hb,Or.inr (Nat.zero_le _)⟩ ?_ ?_
  ·rintro t m h ht ⟨W0,a0,x2,x3,rfl,a1,a2,a3,a4,a5,a6⟩
   refine⟨[some (.ref (L+1)),some (.ref a0),some (.int t),x3],by simp only[QX],?_⟩
   have q1:=q.keep a1;have at1:=q1.attr;refine ok_for (x:= .ref (L+4)) (vs:=N.cells.map Cell.v) (gd:=some (L+4,.list (N.cells.map Cell.v))) (h1:=h) (fun k m h=>∃ Wn a x3,m=[some (.ref (L+1)),some (.ref a),some (.int t),x3]∧Keep H h∧h[a]? =some (.list (za Wn))∧Wn.length≤400+400 * t+20 * k∧PassInv N W0 k Wn)
    (by simp only[QX,at1]) (zg _ _ _ q1.cel) ⟨W0,a0,x3,rfl,a1,a2,by omega,PassInv.init N W0⟩ (fun j m h _ ⟨_,_,_,_,s,_⟩=>by unfold guardOk;simp[(q.keep s).cel]) ?_ ?_
   ·rintro k v m h hv ⟨Wn,a,x3,rfl,b1,b2,b3,b4⟩
    have hk':=(gS.mp hv).1;rw[length_map]at hk';have hck:N.cells[k]? =some N.cells[k]:=getElem?_eq_getElem hk';rw[getElem?_map,hck]at hv;have hcm:=getElem_mem hk';have hni:=hs.ni _ hcm;generalize N.cells[k]=c at *;simp only[Option.map_some,Option.some.injEq]at hv;subst hv;refine⟨[some (.ref (L+1)),some (.ref a),some (.int t),some c.v],by simp only[QX],?_⟩
    refine ok_if (c:=decide (c.out∈Wn)) (h1:=h) (by unfold Cell.v;simp only[QX,in_ints b2]) ?_ ?_
    ·intro hin
     have hin:=of_decide_eq_true hin;obtain⟨T,hT⟩:=comp_filterL (cl:=cl) (m:=[some (.ref (L+1)),some (.ref a),some (.int t),some c.v]) (c:=[]) (h:=h) (h1:=h) (rng:=false) (it:= .sub (.loc 3) (.const (.int 2))) (t:= .cmp .notIn (.loc 0) (.free 1)) (x:= .tup (za c.ins)) c.ins AV.int (gd:=none) (fun x=>decide (x∉Wn)) (by unfold Cell.v;simp only[QX]) rfl (by omega) (fun T=>rfl) (fun x hx T=>by
      refine⟨T,.bool (decide (x∉Wn)),?_,rfl⟩
      have:(!decide (x∈Wn))=decide (x∉Wn):=by by_cases hq:x∈Wn<;>simp[hq]
      rw[← this];simp only[QX,in_ints (get_keep T b2)])
     have k1:Keep h ((h++T)++[.list (za (c.ins.filter fun x=>decide (x∉Wn)))]):=(Keep.push _ _).trans (Keep.push _ _)
     have g1:((h++T)++[AO.list (za (c.ins.filter fun x=>decide (x∉Wn)))])[(h++T).length]? =some (.list (za (c.ins.filter fun x=>decide (x∉Wn)))):=ze
     change evE cl _ _ _ h=some (_,(h++T)++[AO.list (za (c.ins.filter fun x=>decide (x∉Wn)))]) at hT
     generalize (h++T)++[AO.list (za (c.ins.filter fun x=>decide (x∉Wn)))]=h2 at *
     have hfl:=length_filter_le (fun x=>decide (x∉Wn)) c.ins
     have had:=add_lists2 (k1 _ _ b2) g1 (by omega)
     refine zb (v:= .ref h2.length) (m1:=[some (.ref (L+1)),some (.ref h2.length),some (.int t),some c.v]) (evE_bin (x:= .ref a) (h1:=h) (by simp only[QX]) hT had) (by simp only[QX]) (zx ⟨by simp,_,_,_,rfl,(b1.trans k1).snoc _,ze,?_,b4.add hn hck hin⟩)
     rw[length_append];omega
    ·intro hin
     have hin:=of_decide_eq_false hin;exact zx ⟨by simp,Wn,a,_,rfl,b1,b2,by omega,b4.skip hck hin⟩
   ·rintro m h ⟨Wn,a,x3,rfl,b1,b2,b3,b4⟩
    rw[length_map]at b3 b4;refine zn ⟨by simp,Wn,a,_,_,rfl,b1,b2,by omega,fun x hx=>b4.sub x (a4 x hx),fun C hC=>b4.min C hC (a5 C hC),b4.fin a6⟩
  ·rintro m h ⟨Wn,a,x2,x3,rfl,a1,a2,a3,a4,a5,a6⟩
   have q1:=q.keep a1;have at1:=q1.attr;obtain⟨T,hT⟩:=comp_filterL (cl:=cl) (m:=[some (.ref (L+1)),some (.ref a),x2,x3]) (c:=[]) (h:=h) (h1:=h) (rng:=false) (it:= .attr (.loc 0) nCells) (t:= .cmp .in_ (.sub (.loc 0) (.const (.int 1))) (.free 1)) (x:= .ref (L+4)) N.cells Cell.v (gd:=some (L+4,.list (N.cells.map Cell.v))) (fun c=>decide (c.out∈Wn)) (by simp only[QX,at1]) (zg _ _ _ q1.cel) (by omega) (fun T=>by unfold guardOk;simp[get_keep T q1.cel]) (fun c hc T=>by
    refine⟨T,.bool (decide (c.out∈Wn)),?_,rfl⟩
    unfold Cell.v;simp only[QX,in_ints (get_keep T a2)])
   refine zA hT (Or.inl ⟨_,rfl,_,rfl,a1.trans ((Keep.push _ _).trans (Keep.push _ _)),?_⟩)
   rw[← used_same hn u a4 a5 a6];exact ze
 exact⟨a,H',e,r⟩
def bentN(N:NL)(R:List Nat):NL:=rebuild N (zl N.cells R).cells (zl N.cells R).rep
def dirN(N:NL)(R:List Nat):NL:=rebuild N N.cells (dropSt N.cells R).rep
def useN(N:NL)(S:List Nat):NL:=rebuild N (zj N.cells S) (fun _=>none)
structure Tr(N B:NL):Prop where
 good:Good B
 keys:∀ k∈keysOf B,k∈keysOf N
 sat:∀ pat rows W,Sat N pat rows W→Sat B pat rows W∧Kept N B W W
structure Maths:Prop where
 fo:∀ N,Good N→∀ R,Order N.cells R→FoldOk N R
 fg:∀ N,Good N→∀ R,Order N.cells R→Tr N (bentN N R)∧(∀ c∈(bentN N R).cells,NotFold c.kind c.ins)∧zu (bentN N R).cells=zu N.cells
 do_:∀ N,Good N→∀ R,Order N.cells R→DropOk N R
 dg:∀ N,Good N→∀ R,Order N.cells R→Tr N (dirN N R)∧(∀ c∈(dirN N R).cells,c.kind≠kBuf)∧zu (dirN N R).cells=zu N.cells
 ug:∀ N,Good N→∀ S,UsedOk N S→Tr N (useN N S)∧(useN N S).cells=zj N.cells S∧∀ S',UsedOk (useN N S) S'→zj (useN N S).cells S'=(useN N S).cells
theorem Tr.trans{A B C:NL}(x:Tr A B)(y:Tr B C):Tr A C:=
 ⟨y.good,fun k hk=>x.keys k (y.keys k hk),fun pat rows W h=>by
  obtain⟨b1,b2⟩:=x.sat pat rows W h;obtain⟨c1,c2⟩:=y.sat pat rows W b1;refine⟨c1,c2.o.trans b2.o,c2.i.trans b2.i,c2.n.trans b2.n,fun c hc=> ?_⟩
  obtain⟨d,d1,d2,d3,d4,d5⟩:=c2.s c hc;obtain⟨e,e1,e2,e3,e4,e5⟩:=b2.s d d1;exact⟨e,e1,e2.trans d2,e3.trans d3,e4.trans d4,e5.trans d5⟩⟩
theorem Tr.kept{N B:NL}(x:Tr N B){pat:AV→Nat}{rows:Nat}{W W':Int→Nat}(h:Sat N pat rows W)(h':Sat B pat rows W'):Kept N B W W':=by
 obtain⟨b1,b2⟩:=x.sat pat rows W h;have hu:=Sat.unique x.good b1 h';refine⟨?_,b2.i,b2.n,fun c hc=> ?_⟩
 ·rw[← b2.o]
  apply map_congr_left
  intro p hp;unfold portW;have:p.2.map W'=p.2.map W:=map_congr_left fun y hy=>(hu y (x.good.drvO y (mem_flatMap.mpr ⟨p,hp,hy⟩))).symm
  rw[this]
 ·obtain⟨d,d1,d2,d3,d4,d5⟩:=b2.s c hc
  refine⟨d,d1,d2,d3,d4,d5.trans ?_⟩
  exact map_congr_left fun y hy=>hu y (x.good.drv c (sts_mem.mp hc).1 y hy)
theorem Good.outsNd{N:NL}(g:Good N):(outs N).Nodup:=by
 have:=g.nd;rw[nodup_append]at this;exact this.2.1
theorem res_comb{k:Nm}{l:Nat}{p:AV}{h:Hp}{n:Nat}(ok:CombOk k l p):∃ d,res h (n+2) p=some d:=by
 cases ok with
 | lut l t=>exact ⟨_,rfl⟩
 | cell l t nm=>exact ⟨_,res_tup (mapM2 (by rfl) (by rfl))⟩
 | _=>exact ⟨_,rfl⟩
theorem res_cell{N:NL}(g:Good N){c:Cell}(hc:c∈N.cells){h:Hp}{n:Nat}:∃ d,res h (n+3) c.v=some d:=by
 obtain⟨d,hd⟩:∃ d,res h (n+2) c.param=some d:=by
  cases hk:isSt c.kind with
  | true=>exact res_param (g.st c hc hk)
  | false=>exact res_comb (g.comb c hc hk)
 refine⟨_,res_tup (n:=n+2) (ds:=[.str c.kind,.int c.out,.tup (c.ins.map D.int),d]) ?_⟩
 rw[List.mapM_cons,show res h (n+2) (.str c.kind)=some (.str c.kind) from rfl,mapM3 (by rfl) (res_tup (n:=n+1) (res_ints _)) hd]
 rfl
theorem res_cells{N:NL}(g:Good N){h:Hp}{n:Nat}:∃ ds,(N.cells.map Cell.v).mapM (res h (n+3))=some ds:=by
 have:∀ l:List Cell,(∀ c∈l,c∈N.cells)→∃ ds,(l.map Cell.v).mapM (res h (n+3))=some ds:=by
  intro l;induction l with
  | nil=>intro _;exact⟨[],rfl⟩
  | cons c l ih=>
   intro hl;obtain⟨ds,h1⟩:=ih fun x hx=>hl x (by simp[hx])
   obtain⟨d,h2⟩:=res_cell g (hl c (by simp)) (h:=h) (n:=n)
   exact⟨d::ds,by rw[map_cons,List.mapM_cons,h2,h1];rfl⟩
 exact this N.cells fun c hc=>hc
theorem held_comp{cl:Caller}{m:Loc}{h:Hp}{L:Nat}{N:NL}(q:NetA h L N)(hs:Small N)(l3:∀ h,locG m 3 h=some (.ref (L+1),h)):∃ (a:Nat) (vs:List AV) (h':Hp),evE cl (.comp 2 (.many [0,1]) false (.bin .add (.attr (.loc 3) nInputs) (.attr (.loc 3) nOutputs)) (.elt (.tup [(.loc 0),(.bi .list [(.loc 1)])]))) m [] h=some (.ref a,h')∧Keep h h'∧h'[a]? =some (.list vs)∧PortsAt h' 0 vs (N.inputs++N.outputs):=by
 obtain⟨vi,i1,i2⟩:=q.inp;obtain⟨vo,o1,o2⟩:=q.outp;have at0:=q.attr;have hci:=hs.ci;have hco:=hs.co;have hlt:=(gS.mp q.cel).1;have hadd:binV h .add (.ref (L+2)) (.ref (L+3))=some (.ref h.length,h++[.list (vi++vo)]):=by
  unfold binV;simp only[i1,o1];rw[if_pos (by rw[i2.1,o2.1];exact zp (by omega))]
 have pall:PortsAt h 0 (vi++vo) (N.inputs++N.outputs):=by
  refine⟨by rw[length_append,length_append,i2.1,o2.1],fun j p e=> ?_⟩
  by_cases hj:j<N.inputs.length
  ·rw[getElem?_append_left hj]at e
   obtain⟨a,b1,b2,b3⟩:=i2.2 j p e;exact⟨a,by omega,by rw[getElem?_append_left (by rw[i2.1];exact hj)];exact b2,b3⟩
  ·rw[getElem?_append_right (by omega)]at e
   obtain⟨a,b1,b2,b3⟩:=o2.2 _ p e;exact⟨a,by omega,by rw[getElem?_append_right (by rw[i2.1];omega),i2.1];exact b2,b3⟩
 have k0:=Keep.push h [.list (vi++vo)];have g0:(h++[AO.list (vi++vo)])[h.length]? =some (.list (vi++vo)):=ze;have hl0:0<(h++[AO.list (vi++vo)]).length:=by simp
 generalize h.length=xa at *;generalize h++[AO.list (vi++vo)]=h1 at *;have pall:=pall.keep (h':=h1) (fun a o _ e=>k0 _ _ e)
 have hcl:(N.inputs++N.outputs).length≤40:=by rw[length_append];omega
 generalize N.inputs++N.outputs=ps at *;generalize vi++vo=vs at *;obtain⟨c',h2,acc,e,_,s2,s3⟩:=comp_st (cl:=cl) (k:=2) (t:= .many [0,1]) (rng:=false) (it:= .bin .add (.attr (.loc 3) nInputs) (.attr (.loc 3) nOutputs)) (g:= .elt (.tup [(.loc 0),(.bi .list [(.loc 1)])])) (m:=m) (c:=[]) (h:=h) (h1:=h1) (x:= .ref xa) (vs:=vs) (gd:=some (xa,.list vs))
  (fun j c h' acc=>(∃ x y,c=[x,y])∧Keep h1 h'∧PortsAt h' 0 acc (ps.take j)) (evE_bin (x:= .ref (L+2)) (y:= .ref (L+3)) (h1:=h) (h2:=h) (by simp only[QX,l3,at0]) (by simp only[QX,l3,at0]) hadd) (zg _ _ _ g0) ⟨⟨none,none,rfl⟩,Keep.refl _,PortsAt.nil⟩ (fun j c h' acc s=>by unfold guardOk;simp[s.2.1 _ _ g0])
  (fun j v c h' acc hv s=>by
   obtain⟨⟨x,y,rfl⟩,s1,s2⟩:=s;have hj:=(gS.mp hv).1;rw[pall.1]at hj;obtain⟨a,b1,b2,b3⟩:=pall.2 j _ (getElem?_eq_getElem hj);have ht:ps.take (j+1)=ps.take j++[ps[j]]:=by rw[take_add_one,getElem?_eq_getElem hj];rfl
   generalize ps[j]=p at *;rw[hv]at b2;cases b2;have b4:=s1 _ _ b3;have hl1:=s1.len;refine⟨[some (.str p.1),some (.ref a)],_,_,_,by simp only[QX],evG_elt (v:= .tup [.str p.1,.ref h'.length]) (h1:=h'++[.list (za p.2)]) (by simp only[QX,bi_list b4]) (by rw[s2.1,length_take];omega),⟨_,_,rfl⟩,s1.snoc _,?_⟩
   rw[ht];exact (s2.keep (h':=h'++[.list (za p.2)]) (fun a o _ e=>Keep.push _ _ _ _ e)).snoc (by omega) ze)
 rw[pall.1,take_length]at s3;exact⟨h2.length,acc,h2++[.list acc],e,(k0.trans s2).snoc _,ze,s3.keep (h':=h2++[.list acc]) (fun a o _ e=>Keep.push _ _ _ _ e)⟩
theorem or2h{cl:Caller}{a b:E}{m:Loc}{h h1 h2:Hp}(e1:evE cl a m [] h=some (.bool false,h1))(e2:evE cl b m [] h1=some (.bool false,h2)):tstE cl (.bop false [a,b]) m h=some (false,h2):=by
 unfold tstE evE;simp only[evB,e1,e2,Option.bind_eq_bind,Option.bind_some,truthy,Option.pure_def,if_true]
theorem const_comp{cl:Caller}{it e:E}{m c:Loc}{h h1:Hp}{x b:AV}{vs:List AV}{gd:Option (Nat × AO)}(e1:evE cl it m c h=some (x,h1))(e2:itemsOf h1 false x=some (vs,gd))(hl:vs.length≤1000)(hg:∀ h2,Keep h1 h2→guardOk h2 gd=true)(hs:∀ v∈vs,∀ h2,Keep h1 h2→∃ h3,evE cl e m [some v] h2=some (b,h3)∧Keep h2 h3):
  ∃ h2,evE cl (.comp 1 (.one 0) false it (.elt e)) m c h=some (.ref h2.length,h2++[.list (List.replicate vs.length b)])∧Keep h1 h2:=by
 obtain⟨c',h2,acc,e,_,s2,s3⟩:=comp_st (cl:=cl) (k:=1) (t:= .one 0) (rng:=false) (it:=it) (g:= .elt e) (m:=m) (c:=c) (h:=h) (h1:=h1) (x:=x) (vs:=vs) (gd:=gd)
  (fun j c h' acc=>(∃ x,c=[x])∧Keep h1 h'∧acc=List.replicate j b) e1 e2 ⟨⟨none,rfl⟩,Keep.refl _,rfl⟩ (fun j c h' acc s=>hg _ s.2.1)
  (fun j v c h' acc hv s=>by
   obtain⟨⟨x,rfl⟩,s1,rfl⟩:=s;have hj:=(gS.mp hv).1;obtain⟨h3,a1,a2⟩:=hs v (mem_of_getElem? hv) h' s1;exact⟨[some v],_,_,_,by simp only[QX],evG_elt a1 (by rw[length_replicate];omega),⟨_,rfl⟩,s1.trans a2,by rw[replicate_succ']⟩)
 exact⟨h2,by rw[e,s3],s2⟩
theorem in_false{h:Hp}{n:Nat}:containsV (h++[.list (List.replicate n (.bool false))]) (.bool true) (.ref h.length)=some false:=by
 unfold containsV;simp only[zE];rw[show List.replicate n (AV.bool false)=(List.replicate n false).map AV.bool from by rw[map_replicate],anyEq_bool]
 simp
def lawStart:Loc:=(List.replicate 13 none).set 1 (some (AV.ref 0))
theorem cells_eq{N:NL}(g:Good N){h:Hp}{a b:Nat}(ha:h[a]? =some (.list (N.cells.map Cell.v)))(hb:h[b]? =some (.list (N.cells.map Cell.v))):eqV h (.ref a) (.ref b)=some true:=by
 obtain⟨ds,hd⟩:=res_cells g (h:=h) (n:=20);exact eqV_of (res_ref (n:=23) ha hd) (res_ref (n:=23) hb hd) rfl
theorem strs_eq{l:List Nm}{h:Hp}{a b:Nat}(ha:h[a]? =some (.list (l.map AV.str)))(hb:h[b]? =some (.list (l.map AV.str))):eqV h (.ref a) (.ref b)=some true:=
 eqV_of (res_ref (n:=23) ha (res_strs (n:=22) _)) (res_ref (n:=23) hb (res_strs (n:=22) _)) rfl
theorem names_comp{cl:Caller}{m:Loc}{h:Hp}{L i:Nat}{N:NL}(hst:∀ (H:Hp) (L:Nat) (N:NL),NetA H L N→N.cells.length≤1000→∃ a H',cl 44 [.ref (L+1)] H=some (.ref a,H')∧Keep H H'∧H.length≤a∧H'[a]? =some (.list ((sts N.cells).map Cell.v)))(q:NetA h L N)(g:Good N)(li:∀ h,locG m i h=some (.ref (L+1),h)):
  ∃ a h',evE cl (.comp 1 (.one 0) false (.call 44 [(.loc i)]) (.elt (.sub (.sub (.loc 0) (.const (.int 3))) (.neg (.const (.int 2)))))) m [] h=some (.ref a,h')∧Keep h h'∧h'[a]? =some (.list ((zu N.cells).map AV.str)):=by
 obtain⟨sa,h1,b1,b2,b3,b4⟩:=hst h L N q (by have:=g.small.cc;omega)
 have hc:=pnames_comp (cl:=cl) (it:= .call 44 [(.loc i)]) (m:=m) (h:=h) (zi (vs:=[.ref (L+1)]) (h1:=h) (by simp only[QX,li]) b1) b4 (by have:=sts_len N.cells;have:=g.small.cc;omega) (sts_ok g)
 exact⟨_,_,hc,b2.snoc _,ze⟩
theorem sum_s{h:Hp}{a:Nat}{xs:List Int}(ha:h[a]? =some (.list (za xs))):biV h .sum [.ref a]=some (.int xs.sum,h):=by
 unfold biV;simp only[ha,intsOf_ints,Option.map_some]
theorem seed_s(x:Int):∃ s:Nat,s<sLid∧(intOp .mod x 100003).bind (fun y=>intOp .mul y 7)=some (s:Int):=by
 have h1:=Int.emod_nonneg x (show (100003:Int)≠0 by decide)
 have h2:=Int.emod_lt_of_pos x (show (0:Int)<100003 by decide)
 have e1:intOp .mod x 100003=some (x % 100003):=by unfold intOp;simp only;rw[if_pos (by decide)]
 have e2:intOp .mul (x % 100003) 7=some (x % 100003 * 7):=by unfold intOp mulLid;simp only;rw[if_pos (by omega)]
 refine⟨(x % 100003 * 7).toNat,by unfold sLid;omega,?_⟩
 rw[e1,Option.bind_some,e2];congr 1
 omega
theorem law_walk(M:Maths)(zs:List Int)(hz:zs.length≤63):∃ m' H',exL (callF P 1000 20) 1000 (f_law.body.drop 1) lawStart [.list ((zs.take 63).map .int)]=some (.ret (.bool true),m',H'):=by
 suffices hs:Ok (exL (callF P 1000 20) 1000 (f_law.body.drop 1) lawStart [.list ((zs.take 63).map .int)]) (fun f _ _=>f= .ret (.bool true)) by
  obtain⟨f,m,h,e,rfl⟩:=hs;exact⟨m,h,e⟩
 have hnet:∀ {r kd:Nat} {H:Hp},HandAt H r→H[kd]? =some (.list (kindsL.map .str))→kd≠r→∃ L h' N,callF P 1000 20 43 [.ref r,.int 10,.int 2,.ref kd] H=some (.ref (L+1),h')∧NetA h' L N∧Good N∧(∀ k o,k≠r→H[k]? =some o→h'[k]? =some o)∧H.length≤L:=fun a b c=>netlist_s (n:=16) a b c
 have hpat:∀ {L:Nat} {N:NL} {H:Hp},NetA H L N→Good N→∃ a rows pat H',callF P 1000 20 45 [.ref (L+1)] H=some (.tup [.ref a,.int (2 ^ rows - 1:Nat)],H')∧Keep H H'∧PatAt H' a pat (keysOf N) rows∧rows≤64:=fun a b=>patterns_s (n:=18) a b
 have hfold:∀ {L:Nat} {N:NL} {H:Hp},NetA H L N→Good N→∃ R L' H',callF P 1000 20 36 [.ref (L+1)] H=some (.ref (L'+1),H')∧Order N.cells R∧NetA H' L' (bentN N R)∧Keep H H':=fun {L N H} a g=>by
  obtain⟨rk,hr⟩:=g.rk;exact fold_constants_s (n:=10) a g.small g.nd rk hr (M.fo N g)
 have hdrop:∀ {L:Nat} {N:NL} {H:Hp},NetA H L N→Good N→∃ R L' H',callF P 1000 20 37 [.ref (L+1)] H=some (.ref (L'+1),H')∧Order N.cells R∧NetA H' L' (dirN N R)∧Keep H H':=fun {L N H} a g=>by
  obtain⟨rk,hr⟩:=g.rk;exact drop_buffers_s (n:=15) a g.small g.nd rk hr (M.do_ N g)
 have hun:∀ {L:Nat} {N:NL} {H:Hp},NetA H L N→Good N→∃ S L' H',callF P 1000 20 39 [.ref (L+1)] H=some (.ref (L'+1),H')∧UsedOk N S∧NetA H' L' (useN N S)∧Keep H H':=fun a g=>drop_unused_s (n:=16) a g.small g.nd
 have hkept:∀ {Lo Ln pa rows:Nat} {No Nn:NL} {H:Hp} {pat:AV→Nat},NetA H Lo No→NetA H Ln Nn→Good No→Tr No Nn→PatAt H pa pat (keysOf No) rows→∃ H',callF P 1000 20 49 [.ref (Lo+1),.ref (Ln+1),.ref pa,.int (2 ^ rows - 1:Nat)] H=some (.bool true,H')∧Keep H H':=fun a b c d e=>kept_s (n:=15) a b c d.good e (fun k hk=>hk) d.keys (fun W W' h h'=>d.kept h h')
 have hst:∀ (H:Hp) (L:Nat) (N:NL),NetA H L N→N.cells.length≤1000→∃ a H',callF P 1000 20 44 [.ref (L+1)] H=some (.ref a,H')∧Keep H H'∧H.length≤a∧H'[a]? =some (.list ((sts N.cells).map Cell.v)):=fun H L N a b=>states_s (n:=19) a b
 have hfb:∀ {c:Cell} {H:Hp},NotFold c.kind c.ins→∃ T,callF P 1000 20 50 [c.v] H=some (.bool false,H++T):=fun a=>foldable_s (n:=19) a
 have hus:∀ {L:Nat} {N:NL} {H:Hp} {S:List Nat},NetA H L N→Good N→UsedOk N S→∃ a H',callF P 1000 20 51 [.ref (L+1)] H=some (.ref a,H')∧Keep H H'∧H'[a]? =some (.list ((zj N.cells S).map Cell.v)):=fun a g u=>used_s (n:=19) a g.small g.outsNd u
 generalize callF P 1000 20=cl at *;have hst0:lawStart=[none,some (.ref 0),none,none,none,none,none,none,none,none,none,none,none]:=rfl;rw[hst0];unfold f_law;simp only[drop_succ_cons,drop_zero,SN,SK];generalize zs.take 63=xs;change Ok (exL cl 1000 _ _ [.list (za xs)]) _
 have g0:([AO.list (za xs)]:Hp)[0]? =some (.list (za xs)):=rfl;obtain⟨s,hs,hseed⟩:=seed_s xs.sum;refine zb (v:= .ref 1) (h1:=[.list (za xs),.list [.ref 0,.int 0,.int 0,.int s,.int 0]]) (m1:=[none,some (.ref 0),some (.ref 1),none,none,none,none,none,none,none,none,none,none]) (by
  cases hm:intOp .mod xs.sum 100003 with
  | none=>rw[hm]at hseed;cases hseed
  | some y=>
   rw[hm,Option.bind_some]at hseed;simp only[QX,sum_s g0,hm,hseed];rfl) (by simp only[QX]) ?_
 have hh:HandAt [.list (za xs),.list [.ref 0,.int 0,.int 0,.int s,.int 0],.list (kindsL.map .str)] 1:=⟨0,xs,0,0,s,.int 0,rfl,rfl,Nat.zero_le _,hs,by omega⟩
 obtain⟨L,h3,N,n1,n2,g,n4,n5⟩:=hnet (kd:=2) hh rfl (by omega)
 refine zb (v:= .ref (L+1)) (h1:=h3) (m1:=[none,some (.ref 0),some (.ref 1),some (.ref (L+1)),none,none,none,none,none,none,none,none,none]) (zi (vs:=[.ref 1,.int 10,.int 2,.ref 2]) (h1:=[.list (za xs),.list [.ref 0,.int 0,.int 0,.int s,.int 0],.list (kindsL.map .str)]) (by simp only[QX];rfl) n1) (by simp only[QX]) ?_
 clear hh n1 n4 n5 hnet g0 hseed;have at3:=n2.attr;have k31:=Keep.push h3 [.list (N.cells.map Cell.v)];have c31:(h3++[AO.list (N.cells.map Cell.v)])[h3.length]? =some (.list (N.cells.map Cell.v)):=ze;obtain⟨ha,hv,h4,e1,e2,e3,e4⟩:=held_comp (cl:=cl) (m:=[none,some (.ref 0),some (.ref 1),some (.ref (L+1)),none,none,none,none,none,none,none,none,none]) (n2.keep k31) g.small (fun h=>by simp only[QX])
 have at4:=((n2.keep k31).keep e2).attr;refine zb (v:= .ref h4.length) (h1:=h4++[.list [.ref h3.length,.ref ha,.int N.count]]) (m1:=[none,some (.ref 0),some (.ref 1),some (.ref (L+1)),some (.ref h4.length),none,none,none,none,none,none,none,none]) (evE_list (zm (v:= .ref h3.length) (h1:=h3++[.list (N.cells.map Cell.v)]) (by simp only[QX,at3,bi_list n2.cel]) (zm e1 (zm (v:= .int N.count) (h1:=h4) (by simp only[QX,at4]) evL_nil)))) (by simp only[QX]) ?_
 have k5:=Keep.push h4 [.list [.ref h3.length,.ref ha,.int N.count]];have gh:(h4++[AO.list [.ref h3.length,.ref ha,.int N.count]])[h4.length]? =some (.list [.ref h3.length,.ref ha,.int N.count]):=ze;have q5:=((n2.keep k31).keep e2).keep k5;have c5:=k5 _ _ (e2 _ _ c31);have v5:=k5 _ _ e3;have p5:=e4.keep (h':=h4++[.list [.ref h3.length,.ref ha,.int N.count]]) (fun a o _ e=>k5 _ _ e)
 clear e1 at3 at4 c31 e2 e3 e4 n2 k31 k5;generalize h3.length=ca at *;generalize h4.length=hd at *;generalize h4++[AO.list [.ref ca,.ref ha,.int N.count]]=h5 at *;obtain⟨pa,rows,pat,h6,a1,k6,pp,_⟩:=hpat q5 g;refine zb (v:= .tup [.ref pa,.int (2 ^ rows - 1:Nat)]) (h1:=h6) (m1:=[none,some (.ref 0),some (.ref 1),some (.ref (L+1)),some (.ref hd),some (.ref pa),some (.int (2 ^ rows - 1:Nat)),none,none,none,none,none,none]) (zi (vs:=[.ref (L+1)]) (h1:=h5) (by simp only[QX]) a1) (by simp only[QX]) ?_
 obtain⟨R1,Lb,h7,b1,b2,b3,k7⟩:=hfold (q5.keep k6) g;obtain⟨tb,nfb,nmb⟩:=M.fg N g R1 b2;refine zb (v:= .ref (Lb+1)) (h1:=h7) (m1:=[none,some (.ref 0),some (.ref 1),some (.ref (L+1)),some (.ref hd),some (.ref pa),some (.int (2 ^ rows - 1:Nat)),some (.ref (Lb+1)),none,none,none,none,none]) (zi (vs:=[.ref (L+1)]) (h1:=h6) (by simp only[QX]) b1) (by simp only[QX]) ?_
 obtain⟨R2,Ld,h8,d1,d2,d3,k8⟩:=hdrop ((q5.keep k6).keep k7) g;obtain⟨td,nbd,nmd⟩:=M.dg N g R2 d2;refine zb (v:= .ref (Ld+1)) (h1:=h8) (m1:=[none,some (.ref 0),some (.ref 1),some (.ref (L+1)),some (.ref hd),some (.ref pa),some (.int (2 ^ rows - 1:Nat)),some (.ref (Lb+1)),some (.ref (Ld+1)),none,none,none,none]) (zi (vs:=[.ref (L+1)]) (h1:=h7) (by simp only[QX]) d1) (by simp only[QX]) ?_
 obtain⟨Su,Lu,h9,u1,u2,u3,k9⟩:=hun (((q5.keep k6).keep k7).keep k8) g;obtain⟨tu,cu,_⟩:=M.ug N g Su u2;refine zb (v:= .ref (Lu+1)) (h1:=h9) (m1:=[none,some (.ref 0),some (.ref 1),some (.ref (L+1)),some (.ref hd),some (.ref pa),some (.int (2 ^ rows - 1:Nat)),some (.ref (Lb+1)),some (.ref (Ld+1)),some (.ref (Lu+1)),none,none,none]) (zi (vs:=[.ref (L+1)]) (h1:=h8) (by simp only[QX]) u1) (by simp only[QX]) ?_
 have q9:=(((q5.keep k6).keep k7).keep k8).keep k9;have b9:=(b3.keep k8).keep k9;have d9:=d3.keep k9;have pp9:=((pp.keep k7).keep k8).keep k9;have k59:=((k6.trans k7).trans k8).trans k9;have gh9:=k59 _ _ gh;have c9:=k59 _ _ c5;have v9:=k59 _ _ v5;have p9:=p5.keep (h':=h9) (fun a o _ e=>k59 _ _ e)
 clear a1 b1 b3 d1 d3 u1 q5 pp gh c5 v5 p5 k6 k7 k8 k9 k59;generalize hfull:2 ^ rows - 1=full at *;have gf:(h9++[AO.list [.ref (Lb+1),.ref (Ld+1),.ref (Lu+1)]])[h9.length]? =some (.list [.ref (Lb+1),.ref (Ld+1),.ref (Lu+1)]):=ze;refine ok_for (x:= .ref h9.length) (vs:=[.ref (Lb+1),.ref (Ld+1),.ref (Lu+1)]) (gd:=some (h9.length,.list [.ref (Lb+1),.ref (Ld+1),.ref (Lu+1)])) (h1:=h9++[.list [.ref (Lb+1),.ref (Ld+1),.ref (Lu+1)]]) (fun j m h=>(∃ x,m=[none,some (.ref 0),some (.ref 1),some (.ref (L+1)),some (.ref hd),some (.ref pa),some (.int full),some (.ref (Lb+1)),some (.ref (Ld+1)),some (.ref (Lu+1)),x,none,none])∧Keep (h9++[.list [.ref (Lb+1),.ref (Ld+1),.ref (Lu+1)]]) h)
  (by simp only[QX]) (zg _ _ _ gf) ⟨⟨none,rfl⟩,Keep.refl _⟩ (fun j m h _ s=>by unfold guardOk;simp[s.2 _ _ gf]) ?_ ?_
 ·rintro j v m h hv ⟨⟨x,rfl⟩,a1⟩
  refine⟨[none,some (.ref 0),some (.ref 1),some (.ref (L+1)),some (.ref hd),some (.ref pa),some (.int full),some (.ref (Lb+1)),some (.ref (Ld+1)),some (.ref (Lu+1)),some v,none,none],by simp only[QX],?_⟩
  have k1:Keep h9 h:=(Keep.push _ _).trans a1;have hvm:=mem_of_getElem? hv;obtain⟨h',e1,e2⟩:∃ h',cl 49 [.ref (L+1),v,.ref pa,.int full] h=some (.bool true,h')∧Keep h h':=by
   simp only[mem_cons,not_mem_nil,or_false]at hvm;rw[← hfull];rcases hvm with rfl | rfl | rfl
   ·exact hkept (q9.keep k1) (b9.keep k1) g tb (pp9.keep k1)
   ·exact hkept (q9.keep k1) (d9.keep k1) g td (pp9.keep k1)
   ·exact hkept (q9.keep k1) (u3.keep k1) g tu (pp9.keep k1)
  refine ok_skip (h1:=h') (by simp only[QX,e1,Bool.not_true]) (zn ⟨by simp,⟨_,rfl⟩,a1.trans e2⟩)
 ·rintro m h ⟨⟨x,rfl⟩,a1⟩
  have k1:Keep h9 h:=(Keep.push _ _).trans a1;have q9:=q9.keep k1;have b9:=b9.keep k1;have d9:=d9.keep k1;have u9:=u3.keep k1;have pp9:=pp9.keep k1;have gh9:=k1 _ _ gh9;have c9:=k1 _ _ c9;have v9:=k1 _ _ v9;have p9:=p9.keep (h':=h) (fun a o _ e=>k1 _ _ e)
  clear a1 k1 u3 gf;obtain⟨na,h10,e1,k10,e3⟩:=names_comp (cl:=cl) (i:=3) (m:=[none,some (.ref 0),some (.ref 1),some (.ref (L+1)),some (.ref hd),some (.ref pa),some (.int full),some (.ref (Lb+1)),some (.ref (Ld+1)),some (.ref (Lu+1)),x,none,none]) hst q9 g (fun h=>by simp only[QX])
  refine zb (m1:=[none,some (.ref 0),some (.ref 1),some (.ref (L+1)),some (.ref hd),some (.ref pa),some (.int full),some (.ref (Lb+1)),some (.ref (Ld+1)),some (.ref (Lu+1)),x,some (.ref na),none]) e1 (by simp only[QX]) ?_
  obtain⟨nb,h11,f1,k11,f3⟩:=names_comp (cl:=cl) (i:=7) (m:=[none,some (.ref 0),some (.ref 1),some (.ref (L+1)),some (.ref hd),some (.ref pa),some (.int full),some (.ref (Lb+1)),some (.ref (Ld+1)),some (.ref (Lu+1)),x,some (.ref na),none]) hst (b9.keep k10) tb.good (fun h=>by simp only[QX])
  obtain⟨nd,h12,i1,k12,i3⟩:=names_comp (cl:=cl) (i:=8) (m:=[none,some (.ref 0),some (.ref 1),some (.ref (L+1)),some (.ref hd),some (.ref pa),some (.int full),some (.ref (Lb+1)),some (.ref (Ld+1)),some (.ref (Lu+1)),x,some (.ref na),none]) hst ((d9.keep k10).keep k11) td.good (fun h=>by simp only[QX])
  rw[nmb]at f3;rw[nmd]at i3;have eq1:=strs_eq f3 (k11 _ _ e3);have eq2:=strs_eq i3 (k12 _ _ (k11 _ _ e3));refine ok_skip (h1:=h12) (or2h (h1:=h11) (evE_cmp (y:= .ref na) (h2:=h11) (r:=false) f1 (by simp only[QX]) (by simp only[QX,eq1,Bool.not_true])) (evE_cmp (y:= .ref na) (h2:=h12) (r:=false) i1 (by simp only[QX]) (by simp only[QX,eq2,Bool.not_true]))) ?_
  have k2:=(k10.trans k11).trans k12;have q9:=q9.keep k2;have b9:=b9.keep k2;have d9:=d9.keep k2;have u9:=u9.keep k2;have pp9:=pp9.keep k2;have gh9:=k2 _ _ gh9;have c9:=k2 _ _ c9;have v9:=k2 _ _ v9;have p9:=p9.keep (h':=h12) (fun a o _ e=>k2 _ _ e)
  clear e1 f1 i1 eq1 eq2 e3 f3 i3 k10 k11 k12 k2;have atb:=b9.attr;obtain⟨h13,j1,k13⟩:=const_comp (cl:=cl) (b:= .bool false) (it:= .attr (.loc 7) nCells) (e:= .call 50 [(.loc 0)]) (m:=[none,some (.ref 0),some (.ref 1),some (.ref (L+1)),some (.ref hd),some (.ref pa),some (.int full),some (.ref (Lb+1)),some (.ref (Ld+1)),some (.ref (Lu+1)),x,some (.ref na),none]) (c:=[]) (h:=h12) (h1:=h12) (x:= .ref (Lb+4)) (by simp only[QX,atb]) (zg _ _ _ b9.cel) (by rw[length_map];have:=tb.good.small.cc;omega) (fun h2 k=>by unfold guardOk;simp[k _ _ b9.cel]) (fun v hv h2 k=>by
   obtain⟨c,hc,rfl⟩:=mem_map.mp hv;obtain⟨T,hT⟩:=hfb (H:=h2) (nfb c hc);exact⟨h2++T,by simp only[QX,hT],Keep.push _ _⟩)
  have k14:=k13.snoc [.list (List.replicate ((bentN N R1).cells.map Cell.v).length (.bool false))];have hin1:=in_false (h:=h13) (n:=((bentN N R1).cells.map Cell.v).length);generalize hrep:h13++[AO.list (List.replicate ((bentN N R1).cells.map Cell.v).length (.bool false))]=h14 at *;have d14:=d9.keep k14;have atd:=d14.attr;have hkc:=comp_mapL (cl:=cl) (rng:=false) (it:= .attr (.loc 8) nCells) (e:= .sub (.loc 0) (.const (.int 0))) (m:=[none,some (.ref 0),some (.ref 1),some (.ref (L+1)),some (.ref hd),some (.ref pa),some (.int full),some (.ref (Lb+1)),some (.ref (Ld+1)),some (.ref (Lu+1)),x,some (.ref na),none]) (c:=[]) (h:=h14) (h1:=h14) (dirN N R2).cells Cell.v (fun c=> .str c.kind) (x:= .ref (Ld+4)) (by simp only[QX,atd]) (zg _ _ _ d14.cel) (by unfold guardOk;simp[d14.cel]) (by have:=td.good.small.cc;omega) (fun c hc=>by unfold Cell.v;simp only[QX])
  have hks:(dirN N R2).cells.map (fun c=>AV.str c.kind)=((dirN N R2).cells.map (·.kind)).map AV.str:=by rw[map_map];rfl
  rw[hks]at hkc;have hin2:containsV (h14++[.list (((dirN N R2).cells.map (·.kind)).map AV.str)]) (.str kBuf) (.ref h14.length)=some false:=by
   unfold containsV;simp only[zE,anyEq_str];congr 1
   rw[decide_eq_false_iff_not];intro hm;obtain⟨c,hc,e⟩:=mem_map.mp hm;exact nbd c hc e
  have k15:=Keep.push h14 [.list (((dirN N R2).cells.map (·.kind)).map AV.str)];generalize hrep2:h14++[AO.list (((dirN N R2).cells.map (·.kind)).map AV.str)]=h15 at *;refine ok_skip (h1:=h15) (or2h (h1:=h14) (evE_cmp (x:= .bool true) (h1:=h12) (y:= .ref h13.length) (h2:=h14) (r:=false) (by simp only[QX]) j1 (by simp only[QX,hin1])) (evE_cmp (x:= .str kBuf) (h1:=h14) (y:= .ref h14.length) (h2:=h15) (r:=false) (by simp only[QX]) hkc (by simp only[QX,hin2]))) ?_
  have k2:=k14.trans k15;have q9:=q9.keep k2;have b9:=b9.keep k2;have u9:=u9.keep k2;have pp9:=pp9.keep k2;have gh9:=k2 _ _ gh9;have c9:=k2 _ _ c9;have v9:=k2 _ _ v9;have p9:=p9.keep (h':=h15) (fun a o _ e=>k2 _ _ e)
  clear j1 k13 k14 hin1 d14 atd hkc hin2 k15 k2 hrep hrep2 d9 atb;obtain⟨ua,h16,l1,k16,l3⟩:=hus q9 g u2;have atu:=u9.attr;have u16:=k16 _ _ u9.cel;rw[← cu]at l3;have eq3:=cells_eq tu.good u16 l3;refine ok_skip (h1:=h16) (tst_of' (evE_cmp (x:= .ref (Lu+4)) (h1:=h15) (y:= .ref ua) (h2:=h16) (r:=false) (by simp only[QX,atu]) (zi (vs:=[.ref (L+1)]) (h1:=h15) (by simp only[QX]) l1) (by simp only[QX,eq3,Bool.not_true]))) ?_
  have q9:=q9.keep k16;have b9:=b9.keep k16;have pp9:=pp9.keep k16;have gh9:=k16 _ _ gh9;have c9:=k16 _ _ c9;have v9:=k16 _ _ v9;have p9:=p9.keep (h':=h16) (fun a o _ e=>k16 _ _ e)
  clear l1 l3 u16 eq3 atu u9 k16;obtain⟨R3,Lx,h17,r1,r2,r3,k17⟩:=hdrop b9 tb.good;obtain⟨tx,_,_⟩:=M.dg _ tb.good R3 r2;obtain⟨Sl,Ll,h18,s1,s2,s3,k18⟩:=hun r3 tx.good;obtain⟨tl,cl1,cl2⟩:=M.ug _ tx.good Sl s2;refine zb (v:= .ref (Ll+1)) (h1:=h18) (m1:=[none,some (.ref 0),some (.ref 1),some (.ref (L+1)),some (.ref hd),some (.ref pa),some (.int full),some (.ref (Lb+1)),some (.ref (Ld+1)),some (.ref (Lu+1)),x,some (.ref na),some (.ref (Ll+1))]) (zi (vs:=[.ref (Lx+1)]) (h1:=h17) (zm (zi (vs:=[.ref (Lb+1)]) (h1:=h16) (by simp only[QX]) r1) evL_nil) s1) (by simp only[QX]) ?_
  have k2:=k17.trans k18;have q9:=q9.keep k2;have pp9:=pp9.keep k2;have gh9:=k2 _ _ gh9;have c9:=k2 _ _ c9;have v9:=k2 _ _ v9;have p9:=p9.keep (h':=h18) (fun a o _ e=>k2 _ _ e)
  clear r1 s1 k17 k18 k2 r3 b9;have tall:=(tb.trans tx).trans tl;generalize useN (dirN (bentN N R1) R3) Sl=NLs at *;obtain⟨h19,w1,k19⟩:=hkept q9 s3 g tall pp9;rw[hfull]at w1;have s19:=s3.keep k19;obtain⟨Sz,lz,hz1,z1,z2,_,_⟩:∃ Sz r M H',UsedOk NLs Sz∧True∧True∧True:=by
   obtain⟨S,r,M,H',_,u,_⟩:=used_cells_s (n:=0) s19 tall.good.small tall.good.nd;exact⟨S,r,M,H',u,trivial,trivial,trivial⟩
  obtain⟨va,h20,y1,k20,y3⟩:=hus s19 tall.good z2;rw[cl2 Sz z2]at y3;have eq4:=cells_eq tall.good (k20 _ _ s19.cel) y3;have atl:=s19.attr;refine ok_skip (h1:=h20) (or2h (h1:=h19) (by simp only[QX,w1,Bool.not_true]) (evE_cmp (x:= .ref (Ll+4)) (h1:=h19) (y:= .ref va) (h2:=h20) (r:=false) (by simp only[QX,atl]) (zi (vs:=[.ref (Ll+1)]) (h1:=h19) (by simp only[QX]) y1) (by simp only[QX,eq4,Bool.not_true]))) ?_
  have k2:=k19.trans k20;have q9:=q9.keep k2;have gh9:=k2 _ _ gh9;have c9:=k2 _ _ c9;have v9:=k2 _ _ v9;have p9:=p9.keep (h':=h20) (fun a o _ e=>k2 _ _ e)
  obtain⟨ha2,hv2,h21,t1,t2,t3,t4⟩:=held_comp (cl:=cl) (m:=[none,some (.ref 0),some (.ref 1),some (.ref (L+1)),some (.ref hd),some (.ref pa),some (.int full),some (.ref (Lb+1)),some (.ref (Ld+1)),some (.ref (Lu+1)),x,some (.ref na),some (.ref (Ll+1))]) q9 g.small (fun h=>by simp only[QX])
  have at20:=q9.attr;have q21:=q9.keep t2;have at21:=q21.attr;have k22:=Keep.push h21 [.list [.ref (L+4),.ref ha2,.int N.count]];have gl2:(h21++[AO.list [.ref (L+4),.ref ha2,.int N.count]])[h21.length]? =some (.list [.ref (L+4),.ref ha2,.int N.count]):=ze;have q22:=q21.keep k22;have gh22:=k22 _ _ (t2 _ _ gh9);have c22:=k22 _ _ (t2 _ _ c9);have v22:=k22 _ _ (t2 _ _ v9);have p22:=p9.keep (h':=h21++[.list [.ref (L+4),.ref ha2,.int N.count]]) (fun a o _ e=>k22 _ _ (t2 _ _ e))
  have v23:=k22 _ _ t3;have p23:=t4.keep (h':=h21++[.list [.ref (L+4),.ref ha2,.int N.count]]) (fun a o _ e=>k22 _ _ e)
  have hlist:=evE_list (cl:=cl) (m:=[none,some (.ref 0),some (.ref 1),some (.ref (L+1)),some (.ref hd),some (.ref pa),some (.int full),some (.ref (Lb+1)),some (.ref (Ld+1)),some (.ref (Lu+1)),x,some (.ref na),some (.ref (Ll+1))]) (c:=[]) (zm (e:= .attr (.loc 3) nCells) (v:= .ref (L+4)) (h:=h20) (h1:=h20) (by simp only[QX,at20]) (zm t1 (zm (e:= .attr (.loc 3) nCount) (v:= .int N.count) (h1:=h21) (by simp only[QX,at21]) evL_nil)))
  generalize h21++[AO.list [.ref (L+4),.ref ha2,.int N.count]]=h22 at *;obtain⟨ds,hds⟩:=res_cells g (h:=h22) (n:=19);have r1:res h22 eqFuel (.ref hd)=some (.list [.list ds,.list ((N.inputs++N.outputs).map portD),.int N.count]):=res_ref (n:=23) gh22 (mapM3 (res_ref (n:=22) c22 hds) (res_ports (n:=18) p22 v22) (by rfl))
  have r2:res h22 eqFuel (.ref h21.length)=some (.list [.list ds,.list ((N.inputs++N.outputs).map portD),.int N.count]):=res_ref (n:=23) gl2 (mapM3 (res_ref (n:=22) q22.cel hds) (res_ports (n:=18) p23 v23) (by rfl))
  have eq5:=eqV_of r1 r2 rfl;exact zA (v:= .bool true) (h1:=h22) (evE_cmp (x:= .ref hd) (h1:=h20) (y:= .ref h21.length) (h2:=h22) (by simp only[QX]) hlist (by simp only[QX,eq5])) rfl
section
def checkK(k:Nat):Bool:=(List.range (2 ^ 2 ^ k)).all fun t=>(List.range (2 ^ k)).all fun row=>t.testBit row == (shrinkS t k (2 ^ (supp t k).length)).testBit (rowB ((supp t k).map fun p=>row.testBit p))
def checkL(k:Nat):Bool:=(List.range (2 ^ 2 ^ k)).all fun t=>(supp t k).length != 1 || (shrinkS t k 2 == 1 || shrinkS t k 2 == 2)
theorem checkK_le:∀ k,k≤3→checkK k=true:=by
 intro k hk;have:k=0∨k=1∨k=2∨k=3:=by omega
 rcases this with rfl | rfl | rfl | rfl
 ·decide+kernel
 ·decide+kernel
 ·decide+kernel
 ·decide+kernel
theorem checkL_le:∀ k,k≤3→checkL k=true:=by
 intro k hk;have:k=0∨k=1∨k=2∨k=3:=by omega
 rcases this with rfl | rfl | rfl | rfl
 ·decide+kernel
 ·decide+kernel
 ·decide+kernel
 ·decide+kernel
def tb(k:Nm)(p:AV)(bs:List Bool):Bool:=(ctab k p).testBit (rowB bs)
def f3v(F:F3)(v:Int→Bool):Bool:=tb F.kind F.param (F.ins.map v)
theorem tb_buf(b:Bool):tb kBuf .none [b]=b:=by cases b<;>decide
theorem tb_not(b:Bool):tb kNot .none [b]= !b:=by cases b<;>decide
theorem tb_and(a b:Bool):tb kAnd .none [a,b]=(a&&b):=by cases a<;>cases b<;>decide
theorem tb_or(a b:Bool):tb kOr .none [a,b]=(a || b):=by cases a<;>cases b<;>decide
theorem tb_xor(a b:Bool):tb kXor .none [a,b]=(a ^^ b):=by cases a<;>cases b<;>decide
theorem tb_nand(a b:Bool):tb kNand .none [a,b]= !(a&&b):=by cases a<;>cases b<;>decide
theorem tb_nor(a b:Bool):tb kNor .none [a,b]= !(a || b):=by cases a<;>cases b<;>decide
theorem tb_xnor(a b:Bool):tb kXnor .none [a,b]= !(a ^^ b):=by cases a<;>cases b<;>decide
theorem tb_mux(s a b:Bool):tb kMux .none [s,a,b]=(if s then b else a):=by cases s<;>cases a<;>cases b<;>decide
theorem tb_lut(t:Nat)(bs:List Bool):tb kLut (.int t) bs=t.testBit (rowB bs):=by unfold tb ctab;simp
theorem tb_cell(t:Nat)(nm:Nm)(bs:List Bool):tb kCell (.tup [.str nm,.int t]) bs=t.testBit (rowB bs):=by unfold tb ctab;simp
theorem and1_bit(a n:Nat):a / 2 ^ n &&& 1=(a.testBit n).toNat:=by
 rw[Nat.and_one_is_mod,Nat.testBit_eq_decide_div_mod_eq];have:a / 2 ^ n % 2<2:=Nat.mod_lt _ (by omega)
 by_cases h:a / 2 ^ n % 2=1
 ·simp[h]
 ·have:a / 2 ^ n % 2=0:=by omega
  simp[this]
theorem overS_bit(t:Nat)(ins kept:List Int)(row:Nat):∀ n,(overS t ins kept n).testBit row=(decide (row<n)&&overB t ins kept row):=by
 intro n;induction n with
 | zero=>unfold overS;simp
 | succ n ih=>
  have hlt:=overS_lt t ins kept n;unfold overS;rw[Nat.add_comm,Nat.mul_comm,Nat.testBit_two_pow_mul_add _ hlt];by_cases h:row<n
  ·rw[if_pos h,ih]
   have e1:decide (row<n+1)=true:=by simp;omega
   rw[e1];simp[h]
  ·rw[if_neg h]
   by_cases h2:row=n
   ·subst h2
    rw[Nat.sub_self];cases overB t ins kept row<;>simp
   ·have e1:decide (row<n+1)=false:=by simp;omega
    rw[e1];have:row - n≠0:=by omega
    obtain⟨m,hm⟩:∃ m,row - n=m+1:=⟨row - n - 1,by omega⟩
    rw[hm];cases overB t ins kept n<;>simp[Nat.testBit_succ]
section
variable {v:Int→Bool} (h0:v 0=false) (h1:v 1=true)
include h0 h1
theorem tbit_val{kept:List Int}{x:Int}(hx:x=0∨x=1∨x∈kept):tbit kept (rowB (kept.map v)) x=(v x).toNat:=by
 unfold tbit;by_cases h01:x=0∨x=1
 ·rw[if_pos h01]
  rcases h01 with rfl | rfl
  ·rw[h0];rfl
  ·rw[h1];rfl
 ·rw[if_neg h01,and1_bit,rowB_bit]
  have hin:x∈kept:=by
   rcases hx with q | q | q
   ·exact absurd (Or.inl q) h01
   ·exact absurd (Or.inr q) h01
   ·exact q
  have hi:=idxOf_lt_length_iff.mpr hin;rw[getD_eq_getElem?_getD,getElem?_map,getElem?_eq_getElem hi,getElem_idxOf hi];rfl
theorem overB_val{t:Nat}{ins kept:List Int}(hm:∀ x∈ins,x=0∨x=1∨x∈kept):overB t ins kept (rowB (kept.map v))=t.testBit (rowB (ins.map v)):=by
 have:nz (zI ins kept (rowB (kept.map v)))=ins.map v:=by
  unfold nz zI;rw[map_map];apply map_congr_left
  intro x hx;simp only[Function.comp];rw[tbit_val h0 h1 (hm x hx)];cases v x<;>rfl
 unfold overB;rw[this,and1_bit];cases t.testBit (rowB (ins.map v))<;>rfl
theorem small_val{t:Nat}{ins:List Int}(hn:∀ x∈ins,0≤x):(tsmall t ins).testBit (rowB ((zq ins).map v))=t.testBit (rowB (ins.map v)):=by
 unfold tsmall;rw[overS_bit];have hlt:=rowB_lt ((zq ins).map v);rw[length_map]at hlt;rw[overB_val h0 h1 (fun x hx=>by
  have:=hn x hx;by_cases q:x>1
  ·exact Or.inr (Or.inr ((keptOf_mem ins x).mpr ⟨hx,q⟩))
  ·omega)]
 simp[hlt]
theorem res_val{t:Nat}{ins:List Int}(hl:ins.length≤3)(hn:∀ x∈ins,0≤x):(tres t ins).testBit (rowB ((tnets t ins).map v))=t.testBit (rowB (ins.map v)):=by
 have hk:(zq ins).length≤3:=Nat.le_trans (keptOf_len ins) hl;rw[← small_val h0 h1 hn];have hc:=checkK_le _ hk;have hs:tsmall t ins<2 ^ 2 ^ (zq ins).length:=overS_lt _ _ _ _;have hr:=rowB_lt ((zq ins).map v);rw[length_map]at hr;unfold checkK at hc;rw[List.all_eq_true]at hc;have hc:=hc _ (mem_range.mpr hs);rw[List.all_eq_true]at hc;have hc:=hc _ (mem_range.mpr hr);rw[beq_iff_eq]at hc;rw[hc];have:(tnets t ins).map v=(supp (tsmall t ins) (zq ins).length).map fun p=>(rowB ((zq ins).map v)).testBit p:=by
  unfold tnets zH;rw[map_map];apply map_congr_left
  intro p hp;have hpk:=supp_mem hp;simp only[Function.comp];rw[rowB_bit,getD_eq_getElem?_getD,getD_eq_getElem?_getD,getElem?_map,getElem?_eq_getElem hpk];rfl
 rw[this];rfl
theorem table_val{t:Nat}{ins:List Int}(hl:ins.length≤3)(hn:∀ x∈ins,0≤x):f3v (zh t ins) v=t.testBit (rowB (ins.map v)):=by
 have hk:(zq ins).length≤3:=Nat.le_trans (keptOf_len ins) hl;rw[← res_val h0 h1 hl hn];have hL:=checkL_le _ hk;have hs:tsmall t ins<2 ^ 2 ^ (zq ins).length:=overS_lt _ _ _ _;unfold checkL at hL;rw[List.all_eq_true]at hL;have hL:=hL _ (mem_range.mpr hs);unfold zh f3v;by_cases e0:(tnets t ins).length=0
 ·rw[if_pos (by simp[e0])]
  have hnil:tnets t ins=[]:=length_eq_zero_iff.mp e0;rw[hnil];have:(tres t ins &&& 1)=((tres t ins).testBit 0).toNat:=by have:=and1_bit (tres t ins) 0;simpa using this
  simp only[this,map_cons,map_nil];rw[tb_buf];have hr:rowB []=0:=rfl;rw[hr];cases (tres t ins).testBit 0
  ·exact h0
  ·exact h1
 ·rw[if_neg (by simpa using e0)]
  by_cases e1:(tnets t ins).length=1
  ·rw[if_pos (by simp[e1])]
   obtain⟨x,hx⟩:∃ x,tnets t ins=[x]:=by
    match h:tnets t ins,e1 with
    | [x],_=>exact ⟨x,rfl⟩
   have hsl:(supp (tsmall t ins) (zq ins).length).length=1:=by
    unfold tnets zH at e1;rw[length_map]at e1;exact e1
   have hres:tres t ins=shrinkS (tsmall t ins) (zq ins).length 2:=by unfold tres zH;rw[hsl]
   rw[hsl]at hL;simp only[bne_self_eq_false,Bool.false_or,Bool.or_eq_true,beq_iff_eq]at hL;rw[← hres]at hL;rw[hx];rcases hL with hL | hL
   ·rw[hL,if_neg (by decide)]
    simp only[map_cons,map_nil];rw[tb_not];cases v x<;>decide
   ·rw[hL,if_pos rfl]
    simp only[map_cons,map_nil];rw[tb_buf];cases v x<;>decide
  ·rw[if_neg (by simpa using e1),tb_lut]
theorem lib_val{t:Nat}{nm:Nm}{ins:List Int}(hl:ins.length≤3)(hn:∀ x∈ins,0≤x):f3v (libForm ins (.tup [.str nm,.int t])) v=t.testBit (rowB (ins.map v)):=by
 have hct:ctab kCell (.tup [.str nm,.int t])=t:=by unfold ctab;simp
 unfold libForm;rw[hct];split
 ·unfold f3v;rw[tb_cell]
 ·rename_i hne
  have:=table_val h0 h1 (t:=t) hl hn;have hp:(zh t ins).param= .none:=by
   unfold zh at hne ⊢;split
   ·rfl
   ·split
    ·rfl
    ·rename_i a b
     rw[if_neg a,if_neg b]at hne;exact absurd (by simp) hne
  unfold f3v at this ⊢;rw[hp]at this;exact this
def fv(f:Form)(v:Int→Bool):Bool:=tb f.1 .none (f.2.map v)
theorem and_val{a b:Int}{o:Bool}(ho:o=true→v a= !v b):fv (andForm a b o) v=(v a&&v b):=by
 unfold andForm fv;split
 ·rename_i h
  simp only[map_cons,map_nil,tb_buf,h0];simp only[Bool.or_eq_true,decide_eq_true_eq]at h;rcases h with (rfl | rfl) | h
  ·rw[h0];rfl
  ·rw[h0];simp
  ·rw[ho h];cases v b<;>rfl
 ·split
  ·rename_i h
   simp only[map_cons,map_nil,tb_buf];simp only[Bool.or_eq_true,decide_eq_true_eq]at h;rcases h with rfl | rfl
   ·rw[h1];rfl
   ·cases v a<;>rfl
  ·split
   ·rename_i h
    have h:=of_decide_eq_true h;subst h;simp only[map_cons,map_nil,tb_buf,h1,Bool.and_true]
   ·simp only[map_cons,map_nil,tb_and]
theorem or_val{a b:Int}{o:Bool}(ho:o=true→v a= !v b):fv (orForm a b o) v=(v a || v b):=by
 unfold orForm fv;split
 ·rename_i h
  simp only[map_cons,map_nil,tb_buf,h1];simp only[Bool.or_eq_true,decide_eq_true_eq]at h;rcases h with (rfl | rfl) | h
  ·rw[h1];rfl
  ·rw[h1];simp
  ·rw[ho h];cases v b<;>rfl
 ·split
  ·rename_i h
   simp only[map_cons,map_nil,tb_buf];simp only[Bool.or_eq_true,decide_eq_true_eq]at h;rcases h with rfl | rfl
   ·rw[h0];rfl
   ·cases v a<;>rfl
  ·split
   ·rename_i h
    have h:=of_decide_eq_true h;subst h;simp only[map_cons,map_nil,tb_buf,h0,Bool.or_false]
   ·simp only[map_cons,map_nil,tb_or]
theorem xor_val{a b:Int}{o:Bool}(ho:o=true→v a= !v b):fv (xorForm a b o) v=(v a ^^ v b):=by
 unfold xorForm fv;split
 ·rename_i h
  have h:=of_decide_eq_true h;subst h;simp only[map_cons,map_nil,tb_buf,h0];cases v a<;>rfl
 ·split
  ·rename_i h
   simp only[map_cons,map_nil,tb_buf,h1];rw[ho h];cases v b<;>rfl
  ·split
   ·rename_i h
    have h:=of_decide_eq_true h;subst h;simp only[map_cons,map_nil,tb_buf,h0,Bool.false_xor]
   ·split
    ·rename_i h
     have h:=of_decide_eq_true h;subst h;simp only[map_cons,map_nil,tb_buf,h0,Bool.xor_false]
    ·split
     ·rename_i h
      have h:=of_decide_eq_true h;subst h;simp only[map_cons,map_nil,tb_not,h1,Bool.true_xor]
     ·split
      ·rename_i h
       have h:=of_decide_eq_true h;subst h;simp only[map_cons,map_nil,tb_not,h1,Bool.xor_true]
      ·simp only[map_cons,map_nil,tb_xor]
inductive Turnable:Form→Prop where
 | buf (a:Int):Turnable (kBuf,[a])
 | not (a:Int):Turnable (kNot,[a])
 | and (a b:Int):Turnable (kAnd,[a,b])
 | or (a b:Int):Turnable (kOr,[a,b])
 | xor (a b:Int):Turnable (kXor,[a,b])
theorem turn_val{f:Form}(h:Turnable f):fv (turnOf f) v= !fv f v:=by
 cases h with
 | buf a=>
  unfold turnOf turnForm fv;by_cases ha:a=0∨a=1
  ·rcases ha with rfl | rfl
   ·simp only[tb_buf,map_cons,map_nil,if_true,decide_true,Bool.true_or,show (1:Int) - 0=1 from rfl,h0,h1];rfl
   ·simp only[tb_buf,map_cons,map_nil,if_true,decide_true,Bool.or_true,show (1:Int) - 1=0 from rfl,h0,h1];rfl
  ·have:(decide (a=0) || decide (a=1))=false:=by
    rw[Bool.or_eq_false_iff,decide_eq_false_iff_not,decide_eq_false_iff_not];exact⟨fun q=>ha (Or.inl q),fun q=>ha (Or.inr q)⟩
   simp only[this,Bool.false_eq_true,if_false,if_true,decide_true,tb_buf,tb_not,map_cons,map_nil]
 | not a=>
  have e1:decide (kNot=kBuf)=false:=by decide
  unfold turnOf turnForm fv;simp only[e1,Bool.false_eq_true,if_false,if_true,decide_true,tb_buf,tb_not,map_cons,map_nil,Bool.not_not]
 | and a b=>
  have e1:decide (kAnd=kBuf)=false:=by decide
  have e2:decide (kAnd=kNot)=false:=by decide
  unfold turnOf turnForm fv;simp only[e1,e2,Bool.false_eq_true,if_false,if_true,decide_true,tb_and,tb_nand,map_cons,map_nil]
 | or a b=>
  have e1:decide (kOr=kBuf)=false:=by decide
  have e2:decide (kOr=kNot)=false:=by decide
  have e3:decide (kOr=kAnd)=false:=by decide
  unfold turnOf turnForm fv;simp only[e1,e2,e3,Bool.false_eq_true,if_false,if_true,decide_true,tb_or,tb_nor,map_cons,map_nil]
 | xor a b=>
  have e1:decide (kXor=kBuf)=false:=by decide
  have e2:decide (kXor=kNot)=false:=by decide
  have e3:decide (kXor=kAnd)=false:=by decide
  have e4:decide (kXor=kOr)=false:=by decide
  unfold turnOf turnForm fv;simp only[e1,e2,e3,e4,Bool.false_eq_true,if_false,tb_xor,tb_xnor,map_cons,map_nil]
omit h0 h1 in
theorem and_turn(a b:Int)(o:Bool):Turnable (andForm a b o):=by unfold andForm;(repeat' split)<;>constructor
omit h0 h1 in
theorem or_turn(a b:Int)(o:Bool):Turnable (orForm a b o):=by unfold orForm;(repeat' split)<;>constructor
omit h0 h1 in
theorem xor_turn(a b:Int)(o:Bool):Turnable (xorForm a b o):=by unfold xorForm;(repeat' split)<;>constructor
theorem gate_val{k:Nm}{a b:Int}{o:Bool}(hk:k∈gates)(ho:o=true→v a= !v b):fv (zJ k a b o) v=tb k .none [v a,v b]:=by
 have d1:decide (kNand=kAnd)=false:=by decide
 have d2:decide (kOr=kAnd)=false:=by decide
 have d3:decide (kOr=kNand)=false:=by decide
 have d4:decide (kNor=kAnd)=false:=by decide
 have d5:decide (kNor=kNand)=false:=by decide
 have d6:decide (kNor=kOr)=false:=by decide
 have d7:decide (kXor=kAnd)=false:=by decide
 have d8:decide (kXor=kNand)=false:=by decide
 have d9:decide (kXor=kOr)=false:=by decide
 have d10:decide (kXor=kNor)=false:=by decide
 have d11:decide (kXnor=kAnd)=false:=by decide
 have d12:decide (kXnor=kNand)=false:=by decide
 have d13:decide (kXnor=kOr)=false:=by decide
 have d14:decide (kXnor=kNor)=false:=by decide
 have d15:decide (kXnor=kXor)=false:=by decide
 unfold gates at hk;simp only[mem_cons,not_mem_nil,or_false]at hk;unfold zJ;rcases hk with rfl | rfl | rfl | rfl | rfl | rfl
 ·simp only[decide_true,if_true];rw[and_val h0 h1 ho,tb_and]
 ·simp only[d1,Bool.false_eq_true,if_false,decide_true,if_true];rw[turn_val h0 h1 (and_turn _ _ _),and_val h0 h1 ho,tb_nand]
 ·simp only[d2,d3,Bool.false_eq_true,if_false,decide_true,if_true];rw[or_val h0 h1 ho,tb_or]
 ·simp only[d4,d5,d6,Bool.false_eq_true,if_false,decide_true,if_true];rw[turn_val h0 h1 (or_turn _ _ _),or_val h0 h1 ho,tb_nor]
 ·simp only[d7,d8,d9,d10,Bool.false_eq_true,if_false,decide_true,if_true];rw[xor_val h0 h1 ho,tb_xor]
 ·simp only[d11,d12,d13,d14,d15,Bool.false_eq_true,if_false];rw[turn_val h0 h1 (xor_turn _ _ _),xor_val h0 h1 ho,tb_xnor]
theorem sel_val{s a b:Int}:fv (selForm s a b) v=tb kMux .none [v s,v a,v b]:=by
 rw[tb_mux];unfold selForm fv;split
 ·rename_i h
  simp only[map_cons,map_nil,tb_buf];simp only[Bool.or_eq_true,decide_eq_true_eq]at h;rcases h with rfl | rfl
  ·rw[h0];rfl
  ·cases v s<;>rfl
 ·split
  ·rename_i h
   have h:=of_decide_eq_true h;subst h;simp only[map_cons,map_nil,tb_buf,h1,if_true]
  ·split
   ·rename_i h
    simp only[Bool.and_eq_true,decide_eq_true_eq]at h;obtain⟨rfl,rfl⟩:=h;simp only[map_cons,map_nil,tb_buf,h0,h1];cases v s<;>rfl
   ·split
    ·rename_i h
     simp only[Bool.and_eq_true,decide_eq_true_eq]at h;obtain⟨rfl,rfl⟩:=h;simp only[map_cons,map_nil,tb_not,h0,h1];cases v s<;>rfl
    ·simp only[map_cons,map_nil,tb_mux]
end
end
inductive FG(a b:Int):Form→Prop where
 | buf (y:Int):(y=0∨y=1∨y=a∨y=b)→FG a b (kBuf,[y])
 | not (x:Int):(x=a∨x=b)→FG a b (kNot,[x])
 | g (k:Nm):k∈gates→2≤a→2≤b→a≠b→FG a b (k,[a,b])
theorem and_fg{a b:Int}{o:Bool}(ha:0≤a)(hb:0≤b):FG a b (andForm a b o):=by
 unfold andForm;split
 ·exact FG.buf 0 (Or.inl rfl)
 ·rename_i h1
  split
  ·exact FG.buf b (by simp)
  ·rename_i h2
   split
   ·exact FG.buf a (by simp)
   ·rename_i h3
    simp only[Bool.or_eq_true,decide_eq_true_eq,not_or]at h1 h2 h3;exact FG.g _ (by decide) (by omega) (by omega) h2.2
theorem or_fg{a b:Int}{o:Bool}(ha:0≤a)(hb:0≤b):FG a b (orForm a b o):=by
 unfold orForm;split
 ·exact FG.buf 1 (by simp)
 ·rename_i h1
  split
  ·exact FG.buf b (by simp)
  ·rename_i h2
   split
   ·exact FG.buf a (by simp)
   ·rename_i h3
    simp only[Bool.or_eq_true,decide_eq_true_eq,not_or]at h1 h2 h3;exact FG.g _ (by decide) (by omega) (by omega) h2.2
theorem xor_fg{a b:Int}{o:Bool}(ha:0≤a)(hb:0≤b):FG a b (xorForm a b o):=by
 unfold xorForm;split
 ·exact FG.buf 0 (Or.inl rfl)
 ·rename_i h1
  split
  ·exact FG.buf 1 (by simp)
  ·split
   ·exact FG.buf b (by simp)
   ·rename_i h2
    split
    ·exact FG.buf a (by simp)
    ·rename_i h3
     split
     ·exact FG.not b (by simp)
     ·rename_i h4
      split
      ·exact FG.not a (by simp)
      ·rename_i h5
       simp only[decide_eq_true_eq]at h1 h2 h3 h4 h5;exact FG.g _ (by decide) (by omega) (by omega) h1
theorem turn_fg{a b:Int}{f:Form}(h:FG a b f)(ht:Turnable f):FG a b (turnOf f):=by
 cases ht with
 | buf y=>
  have hy:y=0∨y=1∨y=a∨y=b:=by
   generalize hK:(kBuf,[y])=K at h;cases h with
   | buf z hz=>simp only[Prod.mk.injEq,List.cons.injEq]at hK;rw[hK.2.1];exact hz
   | not z hz=>simp only[Prod.mk.injEq]at hK;exact absurd hK.1 (by decide)
   | g k=>simp at hK
  unfold turnOf turnForm;by_cases hy2:y=0∨y=1
  ·have:(decide (y=0) || decide (y=1))=true:=by simpa using hy2
   simp only[this,decide_true,if_true];exact FG.buf _ (by omega)
  ·have:(decide (y=0) || decide (y=1))=false:=by
    rw[Bool.or_eq_false_iff,decide_eq_false_iff_not,decide_eq_false_iff_not];exact⟨fun q=>hy2 (Or.inl q),fun q=>hy2 (Or.inr q)⟩
   simp only[this,decide_true,if_true,Bool.false_eq_true,if_false];refine FG.not y ?_
   rcases hy with q | q | q | q
   ·exact absurd (Or.inl q) hy2
   ·exact absurd (Or.inr q) hy2
   ·exact Or.inl q
   ·exact Or.inr q
 | not y=>
  have hy:y=a∨y=b:=by
   generalize hK:(kNot,[y])=K at h;cases h with
   | buf z hz=>simp only[Prod.mk.injEq]at hK;exact absurd hK.1 (by decide)
   | not z hz=>simp only[Prod.mk.injEq,List.cons.injEq]at hK;rw[hK.2.1];exact hz
   | g k=>simp at hK
  have e1:decide (kNot=kBuf)=false:=by decide
  unfold turnOf turnForm;simp only[e1,decide_true,if_true,Bool.false_eq_true,if_false];exact FG.buf _ (by rcases hy with q | q<;>simp[q])
 | and c d=>
  obtain⟨rfl,rfl,h1,h2,h3⟩:c=a∧d=b∧2≤a∧2≤b∧a≠b:=by
   generalize hK:(kAnd,[c,d])=K at h;cases h with
   | buf z hz=>simp at hK
   | not z hz=>simp at hK
   | g k hk x y z=>simp only[Prod.mk.injEq,List.cons.injEq]at hK;exact⟨hK.2.1,hK.2.2.1,x,y,z⟩
  have e1:decide (kAnd=kBuf)=false:=by decide
  have e2:decide (kAnd=kNot)=false:=by decide
  unfold turnOf turnForm;simp only[e1,e2,decide_true,if_true,Bool.false_eq_true,if_false];exact FG.g _ (by decide) h1 h2 h3
 | or c d=>
  obtain⟨rfl,rfl,h1,h2,h3⟩:c=a∧d=b∧2≤a∧2≤b∧a≠b:=by
   generalize hK:(kOr,[c,d])=K at h;cases h with
   | buf z hz=>simp at hK
   | not z hz=>simp at hK
   | g k hk x y z=>simp only[Prod.mk.injEq,List.cons.injEq]at hK;exact⟨hK.2.1,hK.2.2.1,x,y,z⟩
  have e1:decide (kOr=kBuf)=false:=by decide
  have e2:decide (kOr=kNot)=false:=by decide
  have e3:decide (kOr=kAnd)=false:=by decide
  unfold turnOf turnForm;simp only[e1,e2,e3,decide_true,if_true,Bool.false_eq_true,if_false];exact FG.g _ (by decide) h1 h2 h3
 | xor c d=>
  obtain⟨rfl,rfl,h1,h2,h3⟩:c=a∧d=b∧2≤a∧2≤b∧a≠b:=by
   generalize hK:(kXor,[c,d])=K at h;cases h with
   | buf z hz=>simp at hK
   | not z hz=>simp at hK
   | g k hk x y z=>simp only[Prod.mk.injEq,List.cons.injEq]at hK;exact⟨hK.2.1,hK.2.2.1,x,y,z⟩
  have e1:decide (kXor=kBuf)=false:=by decide
  have e2:decide (kXor=kNot)=false:=by decide
  have e3:decide (kXor=kAnd)=false:=by decide
  have e4:decide (kXor=kOr)=false:=by decide
  unfold turnOf turnForm;simp only[e1,e2,e3,e4,Bool.false_eq_true,if_false];exact FG.g _ (by decide) h1 h2 h3
theorem gate_fg{k:Nm}{a b:Int}{o:Bool}(ha:0≤a)(hb:0≤b):FG a b (zJ k a b o):=by
 unfold zJ;(repeat' split)
 ·exact and_fg ha hb
 ·exact turn_fg (and_fg ha hb) (and_turn _ _ _)
 ·exact or_fg ha hb
 ·exact turn_fg (or_fg ha hb) (or_turn _ _ _)
 ·exact xor_fg ha hb
 ·exact turn_fg (xor_fg ha hb) (xor_turn _ _ _)
inductive R1(ins:List Int):F3→Prop where
 | buf (y:Int):(y=0∨y=1∨y∈ins)→R1 ins ⟨kBuf,[y],.none⟩
 | not (x:Int):x∈ins→R1 ins ⟨kNot,[x],.none⟩
 | oth (F:F3):F.kind≠kBuf→F.kind≠kNot→NotFold F.kind F.ins→CombOk F.kind F.ins.length F.param→(∀ x∈F.ins,x∈ins)→R1 ins F
theorem fg_r1{a b:Int}{f:Form}{ins:List Int}(h:FG a b f)(ha:a∈ins)(hb:b∈ins):R1 ins (f3 f):=by
 cases h with
 | buf y hy=>exact R1.buf y (by rcases hy with q | q | q | q<;>simp[q,ha,hb])
 | not x hx=>exact R1.not x (by rcases hx with q | q<;>simp[q,ha,hb])
 | g k hk h1 h2 h3=>
  refine R1.oth _ ?_ ?_ (NotFold.gate k a b hk h1 h2 h3) (CombOk.gate k hk) (fun x hx=> ?_)
  ·intro e;unfold f3 at e;simp only at e;rw[e]at hk;exact absurd hk (by decide)
  ·intro e;unfold f3 at e;simp only at e;rw[e]at hk;exact absurd hk (by decide)
  ·unfold f3 at hx
   simp only[mem_cons,not_mem_nil,or_false]at hx;rcases hx with rfl | rfl
   ·exact ha
   ·exact hb
theorem sel_r1{s a b:Int}{ins:List Int}(hs:s∈ins)(ha:a∈ins)(hb:b∈ins)(hn:∀ x∈ins,0≤x):R1 ins (f3 (selForm s a b)):=by
 have:=hn s hs;have:=hn a ha;have:=hn b hb;unfold selForm;split
 ·exact R1.buf a (by simp[ha])
 ·rename_i h1
  split
  ·exact R1.buf b (by simp[hb])
  ·rename_i h2
   split
   ·exact R1.buf s (by simp[hs])
   ·rename_i h3
    split
    ·exact R1.not s hs
    ·rename_i h4
     simp only[Bool.or_eq_true,Bool.and_eq_true,decide_eq_true_eq,not_or,not_and]at h1 h2 h3 h4;refine R1.oth _ (show kMux≠kBuf by decide) (show kMux≠kNot by decide) (NotFold.mux s a b (by omega) h1.2 (fun q=> ?_)) CombOk.mux (fun x hx=> ?_)
     ·by_cases ha0:a=0
      ·have:=h3 ha0;omega
      ·have ha1:a=1:=by omega
       have:=h4 ha1;omega
     ·unfold f3 at hx
      simp only[mem_cons,not_mem_nil,or_false]at hx;rcases hx with rfl | rfl | rfl
      ·exact hs
      ·exact ha
      ·exact hb
theorem tnets_mem{t:Nat}{ins:List Int}{x:Int}(h:x∈tnets t ins):x∈ins∧x>1:=by
 unfold tnets at h;obtain⟨p,hp,rfl⟩:=mem_map.mp h;have hpl:=supp_mem hp;rw[getD_eq_getElem?_getD,getElem?_eq_getElem hpl];exact (keptOf_mem ins _).mp (getElem_mem hpl)
theorem tnets_nodup{t:Nat}{ins:List Int}:(tnets t ins).Nodup:=by
 unfold tnets zH List.Nodup;rw[pairwise_map];have h1:(supp (tsmall t ins) (zq ins).length).Nodup:=List.Pairwise.filter _ nodup_range;refine List.Pairwise.imp_of_mem ?_ h1
 intro p q hp hq hne e;have hpl:=supp_mem hp;have hql:=supp_mem hq;rw[getD_eq_getElem?_getD,getD_eq_getElem?_getD,getElem?_eq_getElem hpl,getElem?_eq_getElem hql]at e;have e2:(zq ins)[p]? =(zq ins)[q]? :=by rw[getElem?_eq_getElem hpl,getElem?_eq_getElem hql];exact congrArg some e
 exact hne ((getElem?_inj hpl (keptOf_nodup ins)).mp e2)
theorem tnets_len{t:Nat}{ins:List Int}:(tnets t ins).length≤ins.length:=by
 unfold tnets zH;rw[length_map];exact Nat.le_trans (supp_le _ _) (keptOf_len ins)
theorem table_r1{t:Nat}{ins:List Int}(hl:ins.length≤3):R1 ins (zh t ins):=by
 unfold zh;split
 ·refine R1.buf _ ?_
  have:tres t ins &&& 1≤1:=Nat.and_le_right;omega
 ·rename_i h0
  split
  ·rename_i h1
   have h1:=of_decide_eq_true h1;obtain⟨x,hx⟩:∃ x,tnets t ins=[x]:=by
    match h:tnets t ins,h1 with
    | [x],_=>exact ⟨x,rfl⟩
   have hxm:x∈ins:=(tnets_mem (t:=t) (by rw[hx];simp)).1
   rw[hx];split
   ·exact R1.buf x (Or.inr (Or.inr hxm))
   ·exact R1.not x hxm
  ·rename_i h1
   simp only[decide_eq_true_eq]at h0 h1;have hlen:=tnets_len (t:=t) (ins:=ins);exact R1.oth _ (show kLut≠kBuf by decide) (show kLut≠kNot by decide) (NotFold.lut _ tnets_nodup (fun x hx=>by have:=(tnets_mem hx).2;omega) (show 2≤(tnets t ins).length by omega) (show (tnets t ins).length≤3 by omega)) (CombOk.lut _ _ (show 1≤(tnets t ins).length by omega) (show (tnets t ins).length≤3 by omega)) (fun x hx=>(tnets_mem hx).1)
theorem lib_r1{t:Nat}{nm:Nm}{ins:List Int}(hl:ins.length≤3)(h1:1≤ins.length):R1 ins (libForm ins (.tup [.str nm,.int t])):=by
 have hct:ctab kCell (.tup [.str nm,.int t])=t:=by unfold ctab;simp
 unfold libForm;rw[hct];split
 ·exact R1.oth _ (show kCell≠kBuf by decide) (show kCell≠kNot by decide) (NotFold.cell _) (CombOk.cell _ t nm h1 hl) (fun x hx=>hx)
 ·rename_i hne
  have hr:=table_r1 (t:=t) hl;by_cases c0:decide ((tnets t ins).length=0)=true
  ·have e:zh t ins=⟨kBuf,[((tres t ins &&& 1:Nat):Int)],.none⟩:=by unfold zh;rw[if_pos c0]
   rw[e]at hr ⊢;exact hr
  ·by_cases c1:decide ((tnets t ins).length=1)=true
   ·have e:zh t ins=⟨if tres t ins=2 then kBuf else kNot,tnets t ins,.none⟩:=by unfold zh;rw[if_neg c0,if_pos c1]
    rw[e]at hr ⊢;exact hr
   ·have e:zh t ins=⟨kLut,tnets t ins,.int (tres t ins:Nat)⟩:=by unfold zh;rw[if_neg c0,if_neg c1]
    rw[e]at hne;exact absurd (by simp) hne
theorem form1_r1{k:Nm}{p:AV}{ins:List Int}{inv:Int→Option Int}(ok:CombOk k ins.length p)(hn:∀ x∈ins,0≤x):R1 ins (form1 k p ins inv):=by
 have hlen:=combOk_len ok;generalize hL:ins.length=L at ok;cases ok with
 | lut l t h1 h2=>
  have:form1 kLut (.int t) ins inv=zh (ctab kLut (.int t)) ins:=by unfold form1;rw[if_pos rfl]
  rw[this];exact table_r1 (by omega)
 | cell l t nm h1 h2=>
  have:form1 kCell (.tup [.str nm,.int t]) ins inv=libForm ins (.tup [.str nm,.int t]):=by unfold form1;rw[if_neg (by decide),if_pos rfl]
  rw[this];exact lib_r1 (by omega) (by omega)
 | mux=>
  obtain⟨a,b,c,rfl⟩:∃ a b c,ins=[a,b,c]:=by
   match ins,hL with
   | [a,b,c],_=>exact ⟨a,b,c,rfl⟩
  have:form1 kMux .none [a,b,c] inv=f3 (selForm a b c):=by unfold form1;rw[if_neg (by decide),if_neg (by decide),if_pos rfl];rfl
  rw[this];exact sel_r1 (by simp) (by simp) (by simp) hn
 | gate k hk=>
  obtain⟨a,b,rfl⟩:∃ a b,ins=[a,b]:=by
   match ins,hL with
   | [a,b],_=>exact ⟨a,b,rfl⟩
  have g1:k≠kLut:=fun e=>by rw[e]at hk;exact absurd hk (by decide)
  have g2:k≠kCell:=fun e=>by rw[e]at hk;exact absurd hk (by decide)
  have g3:k≠kMux:=fun e=>by rw[e]at hk;exact absurd hk (by decide)
  have:form1 k .none [a,b] inv=f3 (zJ k a b (opp inv a b)):=by unfold form1;rw[if_neg g1,if_neg g2,if_neg g3,if_pos (show [a,b].length=2 from rfl)];rfl
  rw[this];exact fg_r1 (gate_fg (hn a (by simp)) (hn b (by simp))) (by simp) (by simp)
 | buf=>
  obtain⟨a,rfl⟩:∃ a,ins=[a]:=by
   match ins,hL with
   | [a],_=>exact ⟨a,rfl⟩
  exact R1.buf a (by simp)
 | not=>
  obtain⟨a,rfl⟩:∃ a,ins=[a]:=by
   match ins,hL with
   | [a],_=>exact ⟨a,rfl⟩
  exact R1.not a (by simp)
theorem opp_val{inv:Int→Option Int}{v:Int→Bool}{a b:Int}(hi:∀ x y,inv x=some y→v x= !v y)(ha:0≤a)(hb:0≤b)(h:opp inv a b=true):v a= !v b:=by
 unfold opp at h;rw[Bool.or_eq_true,decide_eq_true_iff,decide_eq_true_iff]at h;rcases h with h | h
 ·cases hx:inv a with
  | none=>rw[hx]at h;simp at h;omega
  | some y=>rw[hx]at h;simp at h;rw[← h];exact hi a y hx
 ·cases hx:inv b with
  | none=>rw[hx]at h;simp at h;omega
  | some y=>rw[hx]at h;simp at h;rw[← h,hi b y hx];simp
theorem form1_val{k:Nm}{p:AV}{ins:List Int}{inv:Int→Option Int}{v:Int→Bool}(ok:CombOk k ins.length p)(hn:∀ x∈ins,0≤x)(h0:v 0=false)(h1:v 1=true)(hi:∀ x y,inv x=some y→v x= !v y):f3v (form1 k p ins inv) v=tb k p (ins.map v):=by
 have hlen:=combOk_len ok;generalize hL:ins.length=L at ok;cases ok with
 | lut l t a b=>
  have:form1 kLut (.int t) ins inv=zh t ins:=by unfold form1;rw[if_pos rfl];rfl
  rw[this,table_val h0 h1 (by omega) hn,tb_lut]
 | cell l t nm a b=>
  have:form1 kCell (.tup [.str nm,.int t]) ins inv=libForm ins (.tup [.str nm,.int t]):=by unfold form1;rw[if_neg (by decide),if_pos rfl]
  rw[this,lib_val h0 h1 (by omega) hn,tb_cell]
 | mux=>
  obtain⟨a,b,c,rfl⟩:∃ a b c,ins=[a,b,c]:=by
   match ins,hL with
   | [a,b,c],_=>exact ⟨a,b,c,rfl⟩
  have:form1 kMux .none [a,b,c] inv=f3 (selForm a b c):=by unfold form1;rw[if_neg (by decide),if_neg (by decide),if_pos rfl];rfl
  rw[this];exact sel_val h0 h1
 | gate k hk=>
  obtain⟨a,b,rfl⟩:∃ a b,ins=[a,b]:=by
   match ins,hL with
   | [a,b],_=>exact ⟨a,b,rfl⟩
  have g1:k≠kLut:=fun e=>by rw[e]at hk;exact absurd hk (by decide)
  have g2:k≠kCell:=fun e=>by rw[e]at hk;exact absurd hk (by decide)
  have g3:k≠kMux:=fun e=>by rw[e]at hk;exact absurd hk (by decide)
  have:form1 k .none [a,b] inv=f3 (zJ k a b (opp inv a b)):=by unfold form1;rw[if_neg g1,if_neg g2,if_neg g3,if_pos (show [a,b].length=2 from rfl)];rfl
  rw[this];exact gate_val h0 h1 hk (opp_val hi (hn a (by simp)) (hn b (by simp)))
 | buf=>
  obtain⟨a,rfl⟩:∃ a,ins=[a]:=by
   match ins,hL with
   | [a],_=>exact ⟨a,rfl⟩
  rfl
 | not=>
  obtain⟨a,rfl⟩:∃ a,ins=[a]:=by
   match ins,hL with
   | [a],_=>exact ⟨a,rfl⟩
  rfl
inductive R2(ins:List Int)(inv:Int→Option Int):F3→Prop where
 | buf (y:Int):(y=0∨y=1∨y∈ins∨∃ x∈ins,inv x=some y)→R2 ins inv ⟨kBuf,[y],.none⟩
 | not (x:Int):x∈ins→2≤x→inv x=none→R2 ins inv ⟨kNot,[x],.none⟩
 | oth (F:F3):F.kind≠kBuf→F.kind≠kNot→NotFold F.kind F.ins→CombOk F.kind F.ins.length F.param→(∀ x∈F.ins,x∈ins)→R2 ins inv F
theorem form2_r2{ins:List Int}{inv:Int→Option Int}{F:F3}(h:R1 ins F)(hn:∀ x∈ins,0≤x):R2 ins inv (form2 inv F):=by
 cases h with
 | buf y hy=>
  have:form2 inv ⟨kBuf,[y],.none⟩=⟨kBuf,[y],.none⟩:=by unfold form2;rw[if_neg (show ¬ kBuf=kNot by decide)]
  rw[this];exact R2.buf y (by rcases hy with q | q | q<;>simp[q])
 | not x hx=>
  unfold form2;rw[if_pos rfl];have hgd:[x].getD 0 0=x:=rfl;simp only[hgd];split
  ·rename_i h;exact R2.buf _ (by omega)
  ·rename_i h
   split
   ·rename_i y hy;exact R2.buf y (Or.inr (Or.inr (Or.inr ⟨x,hx,hy⟩)))
   ·rename_i hy;exact R2.not x hx (by have:=hn x hx;omega) hy
 | oth F a b c d e=>
  have:form2 inv F=F:=by unfold form2;rw[if_neg b]
  rw[this];exact R2.oth F a b c d e
theorem form2_val{ins:List Int}{inv:Int→Option Int}{F:F3}{v:Int→Bool}(h:R1 ins F)(h0:v 0=false)(h1:v 1=true)(hi:∀ x y,inv x=some y→v x= !v y):f3v (form2 inv F) v=f3v F v:=by
 cases h with
 | buf y hy=>
  have:form2 inv ⟨kBuf,[y],.none⟩=⟨kBuf,[y],.none⟩:=by unfold form2;rw[if_neg (show ¬ kBuf=kNot by decide)]
  rw[this]
 | not x hx=>
  unfold form2;rw[if_pos rfl];have hgd:[x].getD 0 0=x:=rfl;simp only[hgd];split
  ·rename_i h
   unfold f3v;simp only[map_cons,map_nil,tb_buf,tb_not];rcases h with rfl | rfl
   ·rw[show (1:Int) - 0=1 from rfl,h0,h1];rfl
   ·rw[show (1:Int) - 1=0 from rfl,h0,h1];rfl
  ·split
   ·rename_i y hy
    unfold f3v;simp only[map_cons,map_nil,tb_buf,tb_not];rw[hi x y hy];simp
   ·rfl
 | oth F a b c d e=>
  have:form2 inv F=F:=by unfold form2;rw[if_neg b]
  rw[this]
theorem simple_r2{k:Nm}{p:AV}{ins:List Int}{inv:Int→Option Int}(ok:CombOk k ins.length p)(hn:∀ x∈ins,0≤x):R2 ins inv (zK k p ins inv):=form2_r2 (form1_r1 ok hn) hn
theorem simple_val{k:Nm}{p:AV}{ins:List Int}{inv:Int→Option Int}{v:Int→Bool}(ok:CombOk k ins.length p)(hn:∀ x∈ins,0≤x)(h0:v 0=false)(h1:v 1=true)(hi:∀ x y,inv x=some y→v x= !v y):f3v (zK k p ins inv) v=tb k p (ins.map v):=by
 unfold zK;rw[form2_val (form1_r1 ok hn) h0 h1 hi,form1_val ok hn h0 h1 hi]
structure RB(N:NL)(l:List Cell)(rep:Int→Option Int):Prop where
 len:l.length=N.cells.length
 out:∀ i,i<N.cells.length→(cA l i).out=(cA N.cells i).out
 st:∀ i,i<N.cells.length→isSt (cA N.cells i).kind=true→cA l i=cA N.cells i
 sk:∀ i,i<N.cells.length→isSt (cA N.cells i).kind=false→isSt (cA l i).kind=false
 key:∀ x y,rep x=some y→∃ i∈combs N.cells,(cA N.cells i).out=x
 ch:Chain rep
 vy:∀ x y,rep x=some y→y∈srcs N++outs N
 ok:∀ i∈combs N.cells,rep (cA N.cells i).out=none→CombOk (cA l i).kind (cA l i).ins.length (cA l i).param∧∀ x∈(cA l i).ins,x∈srcs N++outs N
 acyc:∃ rank:Int→Nat,∀ i∈combs N.cells,rep (cA N.cells i).out=none→∀ x∈(cA l i).ins,∀ j∈combs N.cells,(cA N.cells j).out=fin rep x→rank (cA N.cells j).out<rank (cA N.cells i).out
 val:∀ pat rows W,Sat N pat rows W→(∀ x y,rep x=some y→W x=W y)∧∀ i∈combs N.cells,rep (cA N.cells i).out=none→W (cA N.cells i).out=wordS (ctab (cA l i).kind (cA l i).param) ((cA l i).ins.map W) (2 ^ rows - 1)
theorem mem_cA{l:List Cell}{c:Cell}(h:c∈l):∃ i,i<l.length∧cA l i=c:=by
 obtain⟨i,hi⟩:=getElem?_of_mem h;exact⟨i,(gS.mp hi).1,cA_get hi⟩
theorem zr{l:List Cell}{i:Nat}:i∈combs l↔i<l.length∧isSt (cA l i).kind=false:=by
 unfold combs;rw[mem_filter,mem_range];simp
theorem sts_same:∀ (l l0:List Cell),l.length=l0.length→(∀ i,i<l0.length→isSt (cA l0 i).kind=true→cA l i=cA l0 i)→(∀ i,i<l0.length→isSt (cA l0 i).kind=false→isSt (cA l i).kind=false)→sts l=sts l0:=by
 intro l;induction l with
 | nil=>intro l0 h _ _;cases l0 with
  | nil=>rfl
  | cons a l0=>simp at h
 | cons a l ih=>
  intro l0 h h1 h2;cases l0 with
  | nil=>simp at h
  | cons b l0=>
   have hr:=ih l0 (by simpa using h) (fun i hi=>h1 (i+1) (by simpa using hi)) (fun i hi=>h2 (i+1) (by simpa using hi))
   unfold sts at hr ⊢;rw[filter_cons,filter_cons];cases hb:isSt b.kind with
   | true=>
    have:a=b:=h1 0 (by simp) hb
    subst this;rw[hb,if_pos rfl,if_pos rfl,hr]
   | false=>
    have:isSt a.kind=false:=h2 0 (by simp) hb
    rw[this,if_neg (by simp),if_neg (by simp),hr]
theorem RB.cells{N:NL}{l:List Cell}{rep:Int→Option Int}(r:RB N l rep){c:Cell}(h:c∈(rebuild N l rep).cells):∃ i,i<N.cells.length∧rep (cA N.cells i).out=none∧c=mapIns rep (cA l i):=by
 unfold rebuild at h;obtain⟨d,hd,rfl⟩:=mem_map.mp h;rw[mem_filter]at hd;obtain⟨i,hi,rfl⟩:=mem_cA hd.1;rw[r.len]at hi;refine⟨i,hi,?_,rfl⟩
 rw[← r.out i hi];simpa using hd.2
theorem RB.fin_none{N:NL}{l:List Cell}{rep:Int→Option Int}(r:RB N l rep)(x:Int):rep (fin rep x)=none:=by
 unfold fin;cases h:rep x with
 | none=>exact h
 | some y=>exact r.ch x y h
theorem RB.fin_mem{N:NL}{l:List Cell}{rep:Int→Option Int}(r:RB N l rep){x:Int}(hx:x∈srcs N++outs N):fin rep x∈srcs N++outs N:=by
 unfold fin;cases h:rep x with
 | none=>exact hx
 | some y=>exact r.vy x y h
theorem RB.outs_sub{N:NL}{l:List Cell}{rep:Int→Option Int}(r:RB N l rep):(outs (rebuild N l rep)).Sublist (outs N):=by
 have h1:l.map (·.out)=outs N:=by
  unfold outs;apply List.ext_getElem?
  intro i;rw[getElem?_map,getElem?_map];by_cases hi:i<N.cells.length
  ·rw[get_cA hi,get_cA (by rw[r.len];exact hi)]
   simp only[Option.map_some,r.out i hi]
  ·rw[getElem?_eq_none (by rw[r.len];omega),getElem?_eq_none (by omega)]
 rw[← h1];unfold outs rebuild;rw[map_map];exact List.Sublist.map _ filter_sublist
theorem RB.sub{N:NL}{l:List Cell}{rep:Int→Option Int}(r:RB N l rep){x:Int}(h:x∈srcs (rebuild N l rep)++outs (rebuild N l rep)):x∈srcs N++outs N:=by
 rw[mem_append]at h ⊢;rcases h with h | h
 ·exact Or.inl h
 ·exact Or.inr (r.outs_sub.mem h)
theorem RB.sup{N:NL}{l:List Cell}{rep:Int→Option Int}(r:RB N l rep){x:Int}(h:x∈srcs N++outs N)(hr:rep x=none):x∈srcs (rebuild N l rep)++outs (rebuild N l rep):=by
 rw[mem_append]at h ⊢;rcases h with h | h
 ·exact Or.inl h
 ·right
  unfold outs at h;obtain⟨d,hd,rfl⟩:=mem_map.mp h;obtain⟨i,hi,rfl⟩:=mem_cA hd;unfold outs rebuild;simp only[map_map];refine mem_map.mpr ⟨cA l i,mem_filter.mpr ⟨cA_mem (by rw[r.len];exact hi),?_⟩,?_⟩
  ·rw[r.out i hi,hr];rfl
  ·exact r.out i hi
theorem out_inj{N:NL}(hn:(outs N).Nodup){i j:Nat}(hi:i<N.cells.length)(hj:j<N.cells.length)(e:(cA N.cells i).out=(cA N.cells j).out):i=j:=by
 have h1:=drvs_out hn hi;have h2:=drvs_out hn hj;rw[e,h2]at h1;cases h1;rfl
theorem RB.names{N:NL}{l:List Cell}{rep:Int→Option Int}(r:RB N l rep)(hno:(outs N).Nodup):zu (rebuild N l rep).cells=zu N.cells:=by
 have h1:sts l=sts N.cells:=sts_same l N.cells r.len r.st r.sk;rw[stNames_sts,stNames_sts,← h1];unfold sts rebuild;simp only;rw[filter_map,map_map,filter_filter];have:(l.filter fun a=>((fun c=>isSt c.kind) ∘ mapIns rep) a&&(rep a.out).isNone)=l.filter fun c=>isSt c.kind:=by
  apply filter_congr
  intro c hc;obtain⟨i,hi,rfl⟩:=mem_cA hc;rw[r.len]at hi;simp only[Function.comp,mapIns];cases hk:isSt (cA l i).kind with
  | false=>rfl
  | true=>
   have hn:isSt (cA N.cells i).kind=true:=by
    cases hq:isSt (cA N.cells i).kind with
    | true=>rfl
    | false=>have:=r.sk i hi hq;rw[hk]at this;cases this
   have hrep:rep (cA l i).out=none:=by
    rw[r.out i hi];cases hq:rep (cA N.cells i).out with
    | none=>rfl
    | some y=>
     obtain⟨j,hj,ho⟩:=r.key _ _ hq;have:=out_inj hno (zr.mp hj).1 hi ho;subst this;have:=(zr.mp hj).2;rw[hn]at this;cases this
   rw[hrep];rfl
 rw[this];rfl
theorem RB.tr{N:NL}{l:List Cell}{rep:Int→Option Int}(g:Good N)(r:RB N l rep):Tr N (rebuild N l rep):=by
 have hnm:=r.names g.outsNd;have hst:∀ c∈(rebuild N l rep).cells,isSt c.kind=true→∃ i,i<N.cells.length∧isSt (cA N.cells i).kind=true∧c=mapIns rep (cA N.cells i):=by
  intro c hc hk;obtain⟨i,hi,hr,rfl⟩:=r.cells hc;have hk':isSt (cA l i).kind=true:=hk;have hn:isSt (cA N.cells i).kind=true:=by
   cases hq:isSt (cA N.cells i).kind with
   | true=>rfl
   | false=>have:=r.sk i hi hq;rw[hk']at this;cases this
  exact⟨i,hi,hn,by rw[r.st i hi hn]⟩
 have hcb:∀ c∈(rebuild N l rep).cells,isSt c.kind=false→∃ i∈combs N.cells,rep (cA N.cells i).out=none∧c=mapIns rep (cA l i):=by
  intro c hc hk;obtain⟨i,hi,hr,rfl⟩:=r.cells hc;have hk':isSt (cA l i).kind=false:=hk;refine⟨i,zr.mpr ⟨hi,?_⟩,hr,rfl⟩
  cases hq:isSt (cA N.cells i).kind with
  | false=>rfl
  | true=>rw[r.st i hi hq,hq]at hk';cases hk'
 have hsm:=g.small;have hgood:Good (rebuild N l rep):=by
  refine⟨⟨hsm.ci,by show (N.outputs.map _).length≤20;rw[length_map];exact hsm.co,?_,hsm.pi,?_,?_⟩,?_,?_,?_,?_,?_,?_,?_,?_,?_⟩
  ·show (((l.filter fun c=>(rep c.out).isNone).map (mapIns rep))).length≤20
   rw[length_map];exact Nat.le_trans (length_filter_le _ _) (by rw[r.len];exact hsm.cc)
  ·intro p hp
   obtain⟨q,hq,rfl⟩:=mem_map.mp (show p∈N.outputs.map _ from hp);simp only[length_map];exact hsm.po q hq
  ·intro c hc
   cases hk:isSt c.kind with
   | true=>
    obtain⟨i,hi,hn,rfl⟩:=hst c hc hk;show ((cA N.cells i).ins.map (fin rep)).length≤20
    rw[length_map];exact hsm.ni _ (cA_mem hi)
   | false=>
    obtain⟨i,hi,hr,rfl⟩:=hcb c hc hk;show ((cA l i).ins.map (fin rep)).length≤20
    rw[length_map];have:=combOk_len (r.ok i hi hr).1;omega
  ·have:(srcs (rebuild N l rep)++outs (rebuild N l rep)).Sublist (srcs N++outs N):=List.Sublist.append (List.Sublist.refl _) r.outs_sub
   exact List.Pairwise.sublist this g.nd
  ·intro c hc hk
   obtain⟨i,hi,hr,rfl⟩:=hcb c hc hk;have:=(r.ok i hi hr).1;show CombOk (cA l i).kind ((cA l i).ins.map (fin rep)).length (cA l i).param
   rw[length_map];exact this
  ·intro c hc hk
   obtain⟨i,hi,hn,rfl⟩:=hst c hc hk;show StOk (cA N.cells i).kind ((cA N.cells i).ins.map (fin rep)).length (cA N.cells i).param
   rw[length_map];exact g.st _ (cA_mem hi) hn
  ·intro c hc x hx
   cases hk:isSt c.kind with
   | true=>
    obtain⟨i,hi,hn,rfl⟩:=hst c hc hk;obtain⟨y,hy,rfl⟩:=mem_map.mp (show x∈(cA N.cells i).ins.map (fin rep) from hx);exact r.sup (r.fin_mem (g.drv _ (cA_mem hi) y hy)) (r.fin_none y)
   | false=>
    obtain⟨i,hi,hr,rfl⟩:=hcb c hc hk;obtain⟨y,hy,rfl⟩:=mem_map.mp (show x∈(cA l i).ins.map (fin rep) from hx);exact r.sup (r.fin_mem ((r.ok i hi hr).2 y hy)) (r.fin_none y)
  ·intro x hx
   obtain⟨p,hp,hx⟩:=mem_flatMap.mp (show x∈(N.outputs.map fun p=>(p.1,p.2.map (fin rep))).flatMap (fun p=>p.2) from hx)
   obtain⟨q,hq,rfl⟩:=mem_map.mp hp;obtain⟨y,hy,rfl⟩:=mem_map.mp hx;exact r.sup (r.fin_mem (g.drvO y (mem_flatMap.mpr ⟨q,hq,hy⟩))) (r.fin_none y)
  ·intro x hx;exact g.nn x (r.sub hx)
  ·obtain⟨rank,hr⟩:=r.acyc
   refine⟨rank,fun c hc hk d hd hkd hin=> ?_⟩
   obtain⟨i,hi,hri,rfl⟩:=hcb c hc hk;obtain⟨j,hj,hrj,rfl⟩:=hcb d hd hkd;obtain⟨y,hy,e⟩:=mem_map.mp (show (mapIns rep (cA l j)).out∈(cA l i).ins.map (fin rep) from hin);have hoj:(mapIns rep (cA l j)).out=(cA N.cells j).out:=r.out j (zr.mp hj).1;have hoi:(mapIns rep (cA l i)).out=(cA N.cells i).out:=r.out i (zr.mp hi).1;rw[hoj]at e ⊢;rw[hoi];exact hr i hi hri y hy j hj e.symm
  ·rw[hnm];exact g.nmz
  ·rw[hnm];exact g.bits
 refine⟨hgood,fun k hk=> ?_,fun pat rows W hs=> ?_⟩
 ·rw[keysOf_eq,hnm]at hk
  rw[keysOf_eq];exact hk
 ·obtain⟨hv1,hv2⟩:=r.val pat rows W hs
  have hfin:∀ x,W (fin rep x)=W x:=by
   intro x;unfold fin;cases h:rep x with
   | none=>rfl
   | some y=>exact (hv1 x y h).symm
  have hmap:∀ ins:List Int,(ins.map (fin rep)).map W=ins.map W:=by
   intro ins;rw[map_map];exact map_congr_left fun x _=>hfin x
  refine⟨⟨hs.z,hs.o,hs.i,fun c hc hk=> ?_,fun c hc hk=> ?_,fun x hx=>hs.lt x (r.sub hx)⟩,⟨?_,rfl,rfl,fun c hc=> ?_⟩⟩
  ·obtain⟨i,hi,hn,rfl⟩:=hst c hc hk
   exact hs.s (cA N.cells i) (cA_mem hi) hn
  ·obtain⟨i,hi,hr,rfl⟩:=hcb c hc hk
   have:=hv2 i hi hr;rw[← r.out i (zr.mp hi).1]at this;show W (cA l i).out=wordS (ctab (cA l i).kind (cA l i).param) (((cA l i).ins.map (fin rep)).map W) _
   rw[hmap];exact this
  ·show (N.outputs.map fun p=>(p.1,p.2.map (fin rep))).map (portW W)=_
   rw[map_map];apply map_congr_left
   intro p _;show portW W (p.1,p.2.map (fin rep))=portW W p
   unfold portW;simp only[hmap]
  ·rw[sts_mem]at hc
   obtain⟨i,hi,hn,rfl⟩:=hst c hc.1 hc.2;exact⟨cA N.cells i,sts_mem.mpr ⟨cA_mem hi,hn⟩,rfl,rfl,rfl,(hmap _).symm⟩
section
def Sd(N:NL)(T:List Nat)(x:Int):Prop:=x∈souts N∨∃ i∈T,(cA N.cells i).out=x
theorem mem_take{l:List Nat}{p i:Nat}(h:i∈l.take p):∃ q,q<p∧l[q]? =some i:=by
 obtain⟨q,hq⟩:=getElem?_of_mem h;have hl:=(gS.mp hq).1;rw[length_take]at hl;exact⟨q,by omega,by rw[getElem?_take_of_lt (by omega)]at hq;exact hq⟩
theorem take_mem{l:List Nat}{p q i:Nat}(hq:q<p)(h:l[q]? =some i):i∈l.take p:=by
 apply mem_of_getElem? (i:=q)
 rw[getElem?_take_of_lt hq];exact h
theorem Sd.mono{N:NL}{R:List Nat}{p q:Nat}{x:Int}(h:Sd N (R.take q) x)(hpq:q≤p):Sd N (R.take p) x:=by
 rcases h with h | ⟨i,hi,e⟩
 ·exact Or.inl h
 ·obtain⟨k,hk,hk2⟩:=mem_take hi
  exact Or.inr ⟨i,take_mem (by omega) hk2,e⟩
theorem comb_out{N:NL}(g:Good N){i:Nat}(hi:i∈combs N.cells):(cA N.cells i).out∉souts N:=by
 have hn:=g.nd2 (D:=[]) (E:=cbs N.cells) (by simp)
 rw[map_nil,append_nil,nodup_append]at hn;obtain⟨h1,h2⟩:=zr.mp hi;intro hs;exact hn.2.2 _ hs _ (mem_map.mpr ⟨_,cbs_mem.mpr ⟨cA_mem h1,h2⟩,rfl⟩) rfl
section
variable {N:NL} {R:List Nat} (g:Good N) (o:Order N.cells R)
include g o
theorem sd_ins{p i:Nat}(hi:R[p]? =some i){x:Int}(hx:x∈(cA N.cells i).ins):Sd N (R.take p) x:=by
 have hic:=(o.mem i).mp (mem_of_getElem? hi);obtain⟨h1,h2⟩:=zr.mp hic;rcases net_cases (g.drv _ (cA_mem h1) x hx) with q | ⟨d,hd,rfl⟩
 ·exact Or.inl q
 ·rw[cbs_mem]at hd
  obtain⟨j,hj,rfl⟩:=mem_cA hd.1;refine Or.inr ⟨j,o.top p i hi j ?_,rfl⟩
  unfold pre;rw[mem_filterMap];refine⟨_,hx,?_⟩
  unfold pre1;rw[drvs_out g.outsNd hj];simp[hd.2]
theorem sd_new{p i:Nat}(hi:R[p]? =some i):¬ Sd N (R.take p) (cA N.cells i).out:=by
 have hic:=(o.mem i).mp (mem_of_getElem? hi);rintro (h | ⟨j,hj,e⟩)
 ·exact comb_out g hic h
 ·have hjR:j∈R:=mem_of_mem_take hj
  have:=out_inj g.outsNd (zr.mp ((o.mem j).mp hjR)).1 (zr.mp hic).1 e;subst this;exact nodup_take o.nd hi hj
theorem sd_idx{p j:Nat}(hj:j∈combs N.cells)(h:Sd N (R.take p) (cA N.cells j).out):R.idxOf j<p:=by
 rcases h with h | ⟨i,hi,e⟩
 ·exact absurd h (comb_out g hj)
 ·have hiR:i∈R:=mem_of_mem_take hi
  have:=out_inj g.outsNd (zr.mp ((o.mem i).mp hiR)).1 (zr.mp hj).1 e;subst this;obtain⟨q,hq,hq2⟩:=mem_take hi;have hlt:=idxOf_lt_length_iff.mpr hiR;have h3:R[R.idxOf i]? =some i:=by rw[getElem?_eq_getElem hlt,getElem_idxOf hlt]
  have:=(getElem?_inj hlt o.nd).mp (h3.trans hq2.symm);omega
theorem sd_valid{p:Nat}{x:Int}(h:Sd N (R.take p) x):x∈srcs N++outs N:=by
 rcases h with h | ⟨i,hi,rfl⟩
 ·unfold souts at h
  rw[mem_append]at h ⊢;rcases h with h | h
  ·exact Or.inl h
  ·obtain⟨c,hc,rfl⟩:=mem_map.mp h
   exact Or.inr (mem_map.mpr ⟨c,(sts_mem.mp hc).1,rfl⟩)
 ·have hiR:i∈R:=mem_of_mem_take hi
  exact mem_append_right _ (mem_map.mpr ⟨_,cA_mem (zr.mp ((o.mem i).mp hiR)).1,rfl⟩)
theorem idx_get{i:Nat}(hi:i∈combs N.cells):R[R.idxOf i]? =some i:=by
 have hiR:=(o.mem i).mpr hi;have hlt:=idxOf_lt_length_iff.mpr hiR;rw[getElem?_eq_getElem hlt,getElem_idxOf hlt]
end
def rankR(N:NL)(R:List Nat)(x:Int):Nat:=match drvs N.cells x with
 | some b=>R.idxOf b
 | none=>0
theorem rankR_out{N:NL}(g:Good N)(R:List Nat){i:Nat}(hi:i∈combs N.cells):rankR N R (cA N.cells i).out=R.idxOf i:=by
 unfold rankR;rw[drvs_out g.outsNd (zr.mp hi).1]
def vb(W:Int→Nat)(j:Nat):Int→Bool:=fun x=>(W x).testBit j
theorem bits_map(W:Int→Nat)(ins:List Int)(j:Nat):bitsAt (ins.map W) j=ins.map (vb W j):=by unfold bitsAt vb;rw[map_map];rfl
theorem Sat.bit{N:NL}(g:Good N){pat:AV→Nat}{rows:Nat}{W:Int→Nat}(h:Sat N pat rows W){i:Nat}(hi:i∈combs N.cells){j:Nat}(hj:j<rows):vb W j (cA N.cells i).out=tb (cA N.cells i).kind (cA N.cells i).param ((cA N.cells i).ins.map (vb W j)):=by
 obtain⟨h1,h2⟩:=zr.mp hi;show (W (cA N.cells i).out).testBit j=_
 rw[h.c _ (cA_mem h1) h2,wordS_bit hj,bits_map]
 ·rfl
 ·intro w hw
  obtain⟨x,hx,rfl⟩:=mem_map.mp hw;exact h.lt x (g.drv _ (cA_mem h1) x hx)
theorem Sat.v0{N:NL}{pat:AV→Nat}{rows:Nat}{W:Int→Nat}(h:Sat N pat rows W)(j:Nat):vb W j 0=false:=by unfold vb;rw[h.z];simp
theorem Sat.v1{N:NL}{pat:AV→Nat}{rows:Nat}{W:Int→Nat}(h:Sat N pat rows W){j:Nat}(hj:j<rows):vb W j 1=true:=by unfold vb;rw[h.o];exact full_bit hj
theorem Sat.ext{N:NL}{pat:AV→Nat}{rows:Nat}{W:Int→Nat}(h:Sat N pat rows W){x y:Int}(hx:x∈srcs N++outs N)(hy:y∈srcs N++outs N)(hv:∀ j,j<rows→vb W j x=vb W j y):W x=W y:=word_ext (h.lt x hx) (h.lt y hy) hv
structure DI(N:NL)(R:List Nat)(p:Nat)(s:BS):Prop where
 a:∀ x y,s.rep x=some y→(∃ q i,q<p∧R[q]? =some i∧(cA N.cells i).out=x∧Sd N (R.take q) y)∧s.rep y=none
 b:∀ x y,s.inv x=some y→(∃ q i,q<p∧R[q]? =some i∧(cA N.cells i).out=x∧Sd N (R.take q) y)∧s.rep y=none
 c:∀ pat rows W,Sat N pat rows W→(∀ x y,s.rep x=some y→W x=W y)∧∀ x y,s.inv x=some y→∀ j,j<rows→vb W j x= !vb W j y
 d:∀ i∈R.take p,(cA N.cells i).kind=kBuf→(s.rep (cA N.cells i).out).isSome
theorem DI.fin{N:NL}{R:List Nat}{p:Nat}{s:BS}(d:DI N R p s){x:Int}(hx:Sd N (R.take p) x):Sd N (R.take p) (Mine.fin s.rep x)∧s.rep (Mine.fin s.rep x)=none∧∀ pat rows W,Sat N pat rows W→W (Mine.fin s.rep x)=W x:=by
 unfold Mine.fin;cases h:s.rep x with
 | none=>exact ⟨hx,h,fun _ _ _ _=>rfl⟩
 | some y=>
  obtain⟨⟨q,i,hq,_,_,hs⟩,hn⟩:=d.a x y h;exact⟨hs.mono (by omega),hn,fun pat rows W hW=>((d.c pat rows W hW).1 x y h).symm⟩
theorem DI.putRep{N:NL}{R:List Nat}(g:Good N)(o:Order N.cells R){p i:Nat}{s:BS}(d:DI N R p s)(hi:R[p]? =some i){y:Int}(hy:Sd N (R.take p) y)(hn:s.rep y=none)(hv:∀ pat rows W,Sat N pat rows W→W (cA N.cells i).out=W y):DI N R (p+1) ⟨upd s.rep (cA N.cells i).out y,s.inv⟩:=by
 have hnew:=sd_new g o hi;have keep:∀ y',Sd N (R.take p) y'→s.rep y'=none→upd s.rep (cA N.cells i).out y y'=none:=by
  intro y' h1 h2;unfold upd;rw[if_neg (fun e:(cA N.cells i).out=y'=>hnew (by rw[e];exact h1))]
  exact h2
 refine⟨fun x y' h=> ?_,fun x y' h=> ?_,fun pat rows W hW=>⟨fun x y' h=> ?_,(d.c pat rows W hW).2⟩,fun j hj hk=> ?_⟩
 ·simp only[upd]at h
  split at h
  ·rename_i e
   cases h;exact⟨⟨p,i,by omega,hi,e,hy⟩,keep y hy hn⟩
  ·obtain⟨⟨q,k,h1,h2,h3,h4⟩,h5⟩:=d.a x y' h
   exact⟨⟨q,k,by omega,h2,h3,h4⟩,keep y' (h4.mono (by omega)) h5⟩
 ·obtain⟨⟨q,k,h1,h2,h3,h4⟩,h5⟩:=d.b x y' h
  exact⟨⟨q,k,by omega,h2,h3,h4⟩,keep y' (h4.mono (by omega)) h5⟩
 ·simp only[upd]at h
  split at h
  ·rename_i e
   cases h;rw[← e];exact hv pat rows W hW
  ·exact (d.c pat rows W hW).1 x y' h
 ·simp only[upd]
  split
  ·rfl
  ·rename_i e
   rw[zv hi,mem_append,mem_singleton]at hj;rcases hj with hj | rfl
   ·exact d.d j hj hk
   ·exact absurd rfl e
theorem comb_buf{l:Nat}{p:AV}(h:CombOk kBuf l p):l=1∧p= .none:=by
 generalize hK:kBuf=K at h;cases h with
 | buf=>exact ⟨rfl,rfl⟩
 | gate k hk=>subst hK;exact absurd hk (by decide)
 | _=>exact absurd hK (by decide)
theorem comb_not{l:Nat}{p:AV}(h:CombOk kNot l p):l=1∧p= .none:=by
 generalize hK:kNot=K at h;cases h with
 | not=>exact ⟨rfl,rfl⟩
 | gate k hk=>subst hK;exact absurd hk (by decide)
 | _=>exact absurd hK (by decide)
theorem DI.step{N:NL}{R:List Nat}(g:Good N)(o:Order N.cells R){p i:Nat}{s:BS}(d:DI N R p s)(hi:R[p]? =some i):DI N R (p+1) (dropStep N.cells s i):=by
 have hic:=(o.mem i).mp (mem_of_getElem? hi);obtain⟨hil,hst⟩:=zr.mp hic;have hok:=g.comb _ (cA_mem hil) hst;have hins:=fun x hx=>sd_ins g o hi (x:=x) hx
 have hbit:=fun pat rows W (hW:Sat N pat rows W) j (hj:j<rows)=>hW.bit g hic hj
 have hvo:(cA N.cells i).out∈srcs N++outs N:=mem_append_right _ (mem_map.mpr ⟨_,cA_mem hil,rfl⟩);have hnew:=sd_new g o hi;unfold dropStep;by_cases hb:(cA N.cells i).kind=kBuf
 ·rw[if_pos hb]
  rw[hb]at hok hbit;obtain⟨hl,hp⟩:=comb_buf hok;obtain⟨x,hx⟩:∃ x,(cA N.cells i).ins=[x]:=by
   match h:(cA N.cells i).ins,hl with
   | [x],_=>exact ⟨x,rfl⟩
  rw[hx]at hbit hins ⊢;rw[hp]at hbit;have hgd:[x].getD 0 0=x:=rfl;rw[hgd];obtain⟨f1,f2,f3⟩:=d.fin (hins x (by simp))
  refine d.putRep g o hi f1 f2 (fun pat rows W hW=> ?_)
  rw[f3 pat rows W hW];refine hW.ext hvo (sd_valid g o (hins x (by simp))) (fun j hj=> ?_)
  rw[hbit pat rows W hW j hj,map_cons,map_nil,tb_buf]
 ·rw[if_neg hb]
  by_cases hn:(cA N.cells i).kind=kNot
  ·rw[if_pos hn]
   rw[hn]at hok hbit;obtain⟨hl,hp⟩:=comb_not hok;obtain⟨x,hx⟩:∃ x,(cA N.cells i).ins=[x]:=by
    match h:(cA N.cells i).ins,hl with
    | [x],_=>exact ⟨x,rfl⟩
   rw[hx]at hbit hins ⊢;rw[hp]at hbit;have hgd:[x].getD 0 0=x:=rfl;rw[hgd];obtain⟨f1,f2,f3⟩:=d.fin (hins x (by simp))
   have hnot:∀ pat rows W,Sat N pat rows W→∀ j,j<rows→vb W j (cA N.cells i).out= !vb W j (Mine.fin s.rep x):=by
    intro pat rows W hW j hj;have:vb W j (Mine.fin s.rep x)=vb W j x:=by unfold vb;rw[f3 pat rows W hW]
    rw[hbit pat rows W hW j hj,map_cons,map_nil,tb_not,this]
   generalize Mine.fin s.rep x=y at *;cases hy:s.inv y with
   | some z=>
    obtain⟨⟨q,k,h1,h2,h3,h4⟩,h5⟩:=d.b y z hy;refine d.putRep g o hi (h4.mono (by omega)) h5 (fun pat rows W hW=> ?_)
    refine hW.ext hvo (sd_valid g o h4) (fun j hj=> ?_)
    rw[hnot pat rows W hW j hj,(d.c pat rows W hW).2 y z hy j hj];simp
   | none=>
    refine⟨fun x y' h=> ?_,fun x' y' h=> ?_,fun pat rows W hW=>⟨(d.c pat rows W hW).1,fun x' y' h=> ?_⟩,fun j hj hk=> ?_⟩
    ·obtain⟨⟨q,k,h1,h2,h3,h4⟩,h5⟩:=d.a x y' h
     exact⟨⟨q,k,by omega,h2,h3,h4⟩,h5⟩
    ·simp only[upd]at h
     split at h
     ·rename_i e
      cases h;exact⟨⟨p,i,by omega,hi,e,f1⟩,f2⟩
     ·obtain⟨⟨q,k,h1,h2,h3,h4⟩,h5⟩:=d.b x' y' h
      exact⟨⟨q,k,by omega,h2,h3,h4⟩,h5⟩
    ·simp only[upd]at h
     split at h
     ·rename_i e
      cases h;rw[← e];exact hnot pat rows W hW
     ·exact (d.c pat rows W hW).2 x' y' h
    ·rw[zv hi,mem_append,mem_singleton]at hj
     rcases hj with hj | rfl
     ·exact d.d j hj hk
     ·rw[hn]at hk;exact absurd hk (by decide)
  ·rw[if_neg hn]
   refine⟨fun x y' h=> ?_,fun x' y' h=> ?_,d.c,fun j hj hk=> ?_⟩
   ·obtain⟨⟨q,k,h1,h2,h3,h4⟩,h5⟩:=d.a x y' h
    exact⟨⟨q,k,by omega,h2,h3,h4⟩,h5⟩
   ·obtain⟨⟨q,k,h1,h2,h3,h4⟩,h5⟩:=d.b x' y' h
    exact⟨⟨q,k,by omega,h2,h3,h4⟩,h5⟩
   ·rw[zv hi,mem_append,mem_singleton]at hj
    rcases hj with hj | rfl
    ·exact d.d j hj hk
    ·exact absurd hk hb
theorem DI.all{N:NL}{R:List Nat}(g:Good N)(o:Order N.cells R):∀ p,p≤R.length→DI N R p (dropSt N.cells (R.take p)):=by
 intro p;induction p with
 | zero=>intro _;exact⟨fun x y h=>by simp[dropSt]at h,fun x y h=>by simp[dropSt]at h,fun _ _ _ _=>⟨fun x y h=>by simp[dropSt]at h,fun x y h=>by simp[dropSt]at h⟩,fun i hi=>by simp at hi⟩
 | succ p ih=>
  intro hp;have hi:R[p]? =some R[p]:=getElem?_eq_getElem (by omega)
  rw[zv hi,dropSt_snoc];exact (ih (by omega)).step g o hi
theorem drop_ok{N:NL}{R:List Nat}(g:Good N)(o:Order N.cells R):DropOk N R:=by
 refine⟨fun p hp x y h=>((DI.all g o p hp).a x y h).2,fun i hi _ e=> ?_⟩
 have hic:=zr.mp ((o.mem i).mp hi);have:=combOk_len (g.comb _ (cA_mem hic.1) hic.2);rw[e]at this;simp at this
theorem drop_rb{N:NL}{R:List Nat}(g:Good N)(o:Order N.cells R):RB N N.cells (dropSt N.cells R).rep∧∀ i∈combs N.cells,(cA N.cells i).kind=kBuf→((dropSt N.cells R).rep (cA N.cells i).out).isSome:=by
 have d:=DI.all g o R.length (Nat.le_refl _);rw[take_length]at d;refine⟨⟨rfl,fun _ _=>rfl,fun _ _ _=>rfl,fun _ _ h=>h,fun x y h=> ?_,fun x y h=>(d.a x y h).2,fun x y h=> ?_,fun i hi _=> ?_,⟨rankR N R,fun i hi hr x hx j hj e=> ?_⟩,fun pat rows W hW=>⟨(d.c pat rows W hW).1,fun i hi _=> ?_⟩⟩,fun i hi hk=>d.d i (by rw[take_length];exact (o.mem i).mpr hi) hk⟩
 ·obtain⟨⟨q,i,_,h1,h2,_⟩,_⟩:=d.a x y h
  exact⟨i,(o.mem i).mp (mem_of_getElem? h1),h2⟩
 ·obtain⟨⟨q,i,_,_,_,h3⟩,_⟩:=d.a x y h
  exact sd_valid g o h3
 ·obtain⟨h1,h2⟩:=zr.mp hi
  exact⟨g.comb _ (cA_mem h1) h2,fun x hx=>g.drv _ (cA_mem h1) x hx⟩
 ·rw[rankR_out g R hj,rankR_out g R hi]
  have hp:=idx_get g o hi;have hsx:=sd_ins g o hp hx;cases hrx:(dropSt N.cells R).rep x with
  | none=>
   have e2:(cA N.cells j).out=x:=by rw[e];unfold Mine.fin;rw[hrx];rfl
   rw[← e2]at hsx;exact sd_idx g o hj hsx
  | some y=>
   have e2:(cA N.cells j).out=y:=by rw[e];unfold Mine.fin;rw[hrx];rfl
   obtain⟨⟨q,k,h1,h2,h3,h4⟩,h5⟩:=d.a x y hrx;rw[← e2]at h4;have l1:=sd_idx g o hj h4;rw[← h3]at hsx;have hk:=(o.mem k).mp (mem_of_getElem? h2);have l2:=sd_idx g o hk hsx;have:R.idxOf k=q:=by
    have h6:=idx_get g o hk;have hlt:=(gS.mp h6).1;exact (getElem?_inj hlt o.nd).mp (h6.trans h2.symm)
   omega
 ·obtain⟨h1,h2⟩:=zr.mp hi
  exact hW.c _ (cA_mem h1) h2
end
theorem cA_set_eq{l:List Cell}{i:Nat}{c:Cell}(h:i<l.length):cA (l.set i c) i=c:=cA_get (by rw[getElem?_set_self h])
theorem cA_set_ne{l:List Cell}{i j:Nat}{c:Cell}(h:i≠j):cA (l.set i c) j=cA l j:=by
 unfold cA;rw[getD_eq_getElem?_getD,getD_eq_getElem?_getD,getElem?_set_ne h]
structure Stay(N:NL)(R:List Nat)(q:Nat)(rep:Int→Option Int)(i:Nat)(c:Cell):Prop where
 nf:NotFold c.kind c.ins
 ok:CombOk c.kind c.ins.length c.param
 sd:∀ x∈c.ins,Sd N (R.take q) x∧rep x=none
 va:∀ pat rows W,Sat N pat rows W→∀ j,j<rows→vb W j (cA N.cells i).out=tb c.kind c.param (c.ins.map (vb W j))
structure FI(N:NL)(R:List Nat)(p:Nat)(s:FS):Prop where
 l:s.cells.length=N.cells.length
 u:∀ i,i<N.cells.length→i∉R.take p→cA s.cells i=cA N.cells i
 a:∀ x y,s.rep x=some y→(∃ q i,q<p∧R[q]? =some i∧(cA N.cells i).out=x∧Sd N (R.take q) y)∧s.rep y=none
 b:∀ x y,s.inv x=some y→Sd N (R.take p) x∧Sd N (R.take p) y∧s.rep x=none∧s.rep y=none
 c:∀ pat rows W,Sat N pat rows W→(∀ x y,s.rep x=some y→W x=W y)∧∀ x y,s.inv x=some y→∀ j,j<rows→vb W j x= !vb W j y
 d:∀ q i,q<p→R[q]? =some i→(s.rep (cA N.cells i).out).isSome∨Stay N R q s.rep i (cA s.cells i)
 e:∀ i,i<N.cells.length→(cA s.cells i).ins.length≤100∧(cA s.cells i).out=(cA N.cells i).out∧isSt (cA s.cells i).kind=isSt (cA N.cells i).kind
theorem FI.fin{N:NL}{R:List Nat}{p:Nat}{s:FS}(d:FI N R p s){x:Int}(hx:Sd N (R.take p) x):Sd N (R.take p) (Mine.fin s.rep x)∧s.rep (Mine.fin s.rep x)=none∧∀ pat rows W,Sat N pat rows W→W (Mine.fin s.rep x)=W x:=by
 unfold Mine.fin;cases h:s.rep x with
 | none=>exact ⟨hx,h,fun _ _ _ _=>rfl⟩
 | some y=>
  obtain⟨⟨q,i,hq,_,_,hs⟩,hn⟩:=d.a x y h;exact⟨hs.mono (by omega),hn,fun pat rows W hW=>((d.c pat rows W hW).1 x y h).symm⟩
theorem f3v_eq(F:F3)(v:Int→Bool):f3v F v=tb F.kind F.param (F.ins.map v):=rfl
theorem FI.step{N:NL}{R:List Nat}(g:Good N)(o:Order N.cells R){p i:Nat}{s:FS}(d:FI N R p s)(hi:R[p]? =some i):FI N R (p+1) (foldStep s i):=by
 have hic:=(o.mem i).mp (mem_of_getElem? hi);obtain⟨hil,hst⟩:=zr.mp hic;have hni:=nodup_take o.nd hi;have hcell:=d.u i hil hni;have hok:=g.comb _ (cA_mem hil) hst;have hnew:=sd_new g o hi;have hvo:(cA N.cells i).out∈srcs N++outs N:=mem_append_right _ (mem_map.mpr ⟨_,cA_mem hil,rfl⟩);have hins:∀ x∈(cA N.cells i).ins.map (Mine.fin s.rep),Sd N (R.take p) x∧s.rep x=none:=by
  intro x hx;obtain⟨y,hy,rfl⟩:=mem_map.mp hx;obtain⟨f1,f2,_⟩:=d.fin (sd_ins g o hi hy);exact⟨f1,f2⟩
 have hn:∀ x∈(cA N.cells i).ins.map (Mine.fin s.rep),0≤x:=fun x hx=>g.nn x (sd_valid g o (hins x hx).1)
 have hF:foldF s i=zK (cA N.cells i).kind (cA N.cells i).param ((cA N.cells i).ins.map (Mine.fin s.rep)) s.inv:=by unfold foldF;rw[hcell]
 have hr2:=simple_r2 (inv:=s.inv) (ins:=(cA N.cells i).ins.map (Mine.fin s.rep)) (by rw[length_map];exact hok) hn
 rw[← hF]at hr2;have hval:∀ pat rows W,Sat N pat rows W→∀ j,j<rows→vb W j (cA N.cells i).out=f3v (foldF s i) (vb W j):=by
  intro pat rows W hW j hj;rw[hF,simple_val (ins:=(cA N.cells i).ins.map (Mine.fin s.rep)) (by rw[length_map];exact hok) hn (hW.v0 j) (hW.v1 hj) (fun x y h=>(d.c pat rows W hW).2 x y h j hj),hW.bit g hic hj,map_map]
  congr 1
  apply map_congr_left
  intro x hx;show vb W j x=vb W j (Mine.fin s.rep x)
  unfold vb;rw[(d.fin (sd_ins g o hi hx)).2.2 pat rows W hW]
 have hrep_out:s.rep (cA N.cells i).out=none:=by
  cases h:s.rep (cA N.cells i).out with
  | none=>rfl
  | some y=>
   obtain⟨⟨q,k,h1,h2,h3,_⟩,_⟩:=d.a _ y h;exact absurd (Or.inr ⟨k,take_mem h1 h2,h3⟩) hnew
 have hidx:∀ q k,q<p→R[q]? =some k→k≠i:=fun q k hq hk e=>hni (by rw[← e];exact take_mem hq hk)
 unfold foldStep;rw[hcell];generalize foldF s i=F at *;clear hF;by_cases hb:F.kind=kBuf
 ·rw[if_pos hb]
  obtain⟨y,hFy,hy⟩:∃ y,F=⟨kBuf,[y],.none⟩∧(y=0∨y=1∨y∈(cA N.cells i).ins.map (Mine.fin s.rep)∨∃ x∈(cA N.cells i).ins.map (Mine.fin s.rep),s.inv x=some y):=by
   cases hr2 with
   | buf y hy=>exact ⟨y,rfl,hy⟩
   | not x _ _ _=>exact absurd hb (show kNot≠kBuf by decide)
   | oth F h1=>exact absurd hb h1
  subst hFy;have src01:∀ z:Int,z=0∨z=1→Sd N (R.take p) z∧s.rep z=none:=by
   intro z hz;have hz2:z∈souts N:=by unfold souts srcs;rcases hz with rfl | rfl<;>simp
   refine⟨Or.inl hz2,?_⟩
   cases h:s.rep z with
   | none=>rfl
   | some w=>
    obtain⟨⟨q,k,_,h2,h3,_⟩,_⟩:=d.a z w h;exact absurd (by rw[h3];exact hz2) (comb_out g ((o.mem k).mp (mem_of_getElem? h2)))
  have hyy:Sd N (R.take p) y∧s.rep y=none:=by
   rcases hy with q | q | q | ⟨x,_,q⟩
   ·exact src01 y (Or.inl q)
   ·exact src01 y (Or.inr q)
   ·exact hins y q
   ·obtain⟨_,h2,_,h4⟩:=d.b x y q
    exact⟨h2,h4⟩
  have hgd:[y].getD 0 0=y:=rfl;simp only[hgd];have keep:∀ y',Sd N (R.take p) y'→s.rep y'=none→upd s.rep (cA N.cells i).out y y'=none:=by
   intro y' h1 h2;unfold upd;rw[if_neg (fun e:(cA N.cells i).out=y'=>hnew (by rw[e];exact h1))]
   exact h2
  refine⟨d.l,fun k hk hkn=>d.u k hk (fun h=>hkn (by rw[zv hi];exact mem_append_left _ h)),fun x y' h=> ?_,fun x y' h=> ?_,fun pat rows W hW=>⟨fun x y' h=> ?_,(d.c pat rows W hW).2⟩,fun q k hq hk=> ?_,d.e⟩
  ·simp only[upd]at h
   split at h
   ·rename_i e
    cases h;exact⟨⟨p,i,by omega,hi,e,hyy.1⟩,keep y hyy.1 hyy.2⟩
   ·obtain⟨⟨q,k,h1,h2,h3,h4⟩,h5⟩:=d.a x y' h
    exact⟨⟨q,k,by omega,h2,h3,h4⟩,keep y' (h4.mono (by omega)) h5⟩
  ·obtain⟨h1,h2,h3,h4⟩:=d.b x y' h
   exact⟨h1.mono (by omega),h2.mono (by omega),keep x h1 h3,keep y' h2 h4⟩
  ·simp only[upd]at h
   split at h
   ·rename_i e
    cases h;rw[← e];refine hW.ext hvo (sd_valid g o hyy.1) (fun j hj=> ?_)
    rw[hval pat rows W hW j hj,f3v_eq,map_cons,map_nil,tb_buf]
   ·exact (d.c pat rows W hW).1 x y' h
  ·by_cases hqp:q<p
   ·rcases d.d q k hqp hk with h | h
    ·left
     simp only[upd];split
     ·rfl
     ·exact h
    ·right
     exact⟨h.nf,h.ok,fun x hx=>⟨(h.sd x hx).1,keep x ((h.sd x hx).1.mono (by omega)) (h.sd x hx).2⟩,h.va⟩
   ·have:q=p:=by omega
    subst this;rw[hi]at hk;cases hk;left
    simp[upd]
 ·rw[if_neg hb]
  have hF2:NotFold F.kind F.ins∧CombOk F.kind F.ins.length F.param∧(∀ x∈F.ins,x∈(cA N.cells i).ins.map (Mine.fin s.rep))∧(F.kind=kNot→∃ x,F.ins=[x]∧F.param= .none):=by
   cases hr2 with
   | buf y hy=>exact absurd rfl hb
   | not x h1 h2 h3=>exact ⟨NotFold.not x h2,CombOk.not,fun y hy=>by rw[mem_singleton]at hy;subst hy;exact h1,fun _=>⟨x,rfl,rfl⟩⟩
   | oth F h1 h2 h3 h4 h5=>exact ⟨h3,h4,h5,fun e=>absurd e h2⟩
  obtain⟨hnf,hcok,hsub,hnot⟩:=hF2;have hstay:Stay N R p s.rep i ⟨F.kind,(cA N.cells i).out,F.ins,F.param⟩:=⟨hnf,hcok,fun x hx=>hins x (hsub x hx),fun pat rows W hW j hj=>hval pat rows W hW j hj⟩
  have hlen:=combOk_len hcok;have hil2:i<s.cells.length:=by rw[d.l];exact hil
  have hinv:∀ x y,(if F.kind=kNot then upd (upd s.inv (cA N.cells i).out (F.ins.getD 0 0)) (F.ins.getD 0 0) (cA N.cells i).out else s.inv) x=some y→s.inv x=some y∨(F.kind=kNot∧∃ z,F.ins=[z]∧F.param= .none∧z∈(cA N.cells i).ins.map (Mine.fin s.rep)∧((x=z∧y=(cA N.cells i).out)∨(x=(cA N.cells i).out∧y=z))):=by
   intro x y h;by_cases hk:F.kind=kNot
   ·rw[if_pos hk]at h
    obtain⟨z,hz,hp⟩:=hnot hk;have hgd:F.ins.getD 0 0=z:=by rw[hz];rfl
    rw[hgd]at h;have hzi:=hsub z (by rw[hz];simp)
    simp only[upd]at h;split at h
    ·rename_i e
     cases h;exact Or.inr ⟨hk,z,hz,hp,hzi,Or.inl ⟨e.symm,rfl⟩⟩
    ·split at h
     ·rename_i e
      have h:=Option.some.inj h;exact Or.inr ⟨hk,z,hz,hp,hzi,Or.inr ⟨e.symm,h.symm⟩⟩
     ·exact Or.inl h
   ·rw[if_neg hk]at h
    exact Or.inl h
  have hvn:∀ z,F.kind=kNot→F.ins=[z]→F.param= .none→∀ pat rows W,Sat N pat rows W→∀ j,j<rows→vb W j (cA N.cells i).out= !vb W j z:=by
   intro z h1 h2 h3 pat rows W hW j hj;rw[hval pat rows W hW j hj,f3v_eq,h1,h2,h3,map_cons,map_nil,tb_not]
  have hso:Sd N (R.take (p+1)) (cA N.cells i).out:=Or.inr ⟨i,take_mem (by omega) hi,rfl⟩
  refine⟨by simp only[length_set];exact d.l,fun k hk hkn=> ?_,fun x y' h=> ?_,fun x y' h=> ?_,fun pat rows W hW=>⟨(d.c pat rows W hW).1,fun x y' h=> ?_⟩,fun q k hq hk=> ?_,fun k hk=> ?_⟩
  ·have hki:i≠k:=fun e=>hkn (by rw[← e];exact take_mem (by omega) hi)
   simp only;rw[cA_set_ne hki];exact d.u k hk (fun h=>hkn (by rw[zv hi];exact mem_append_left _ h))
  ·obtain⟨⟨q,k,h1,h2,h3,h4⟩,h5⟩:=d.a x y' h
   exact⟨⟨q,k,by omega,h2,h3,h4⟩,h5⟩
  ·rcases hinv x y' h with h | ⟨_,z,_,_,hz,(⟨rfl,rfl⟩ | ⟨rfl,rfl⟩)⟩
   ·obtain⟨h1,h2,h3,h4⟩:=d.b x y' h
    exact⟨h1.mono (by omega),h2.mono (by omega),h3,h4⟩
   ·exact⟨(hins _ hz).1.mono (by omega),hso,(hins _ hz).2,hrep_out⟩
   ·exact⟨hso,(hins _ hz).1.mono (by omega),hrep_out,(hins _ hz).2⟩
  ·intro j hj
   rcases hinv x y' h with h | ⟨h1,z,h2,h3,hz,(⟨rfl,rfl⟩ | ⟨rfl,rfl⟩)⟩
   ·exact (d.c pat rows W hW).2 x y' h j hj
   ·rw[hvn _ h1 h2 h3 pat rows W hW j hj];simp
   ·exact hvn _ h1 h2 h3 pat rows W hW j hj
  ·by_cases hqp:q<p
   ·rcases d.d q k hqp hk with h | h
    ·exact Or.inl h
    ·right
     have hki:i≠k:=fun e=>hidx q k hqp hk e.symm
     simp only;rw[cA_set_ne hki];exact h
   ·have:q=p:=by omega
    subst this;rw[hi]at hk;cases hk;right
    simp only;rw[cA_set_eq hil2];exact hstay
  ·simp only
   by_cases hki:i=k
   ·subst hki
    rw[cA_set_eq hil2];exact⟨by simp only;omega,rfl,by simp only;rw[combOk_st hcok,hst]⟩
   ·rw[cA_set_ne hki]
    exact d.e k hk
theorem FI.all{N:NL}{R:List Nat}(g:Good N)(o:Order N.cells R):∀ p,p≤R.length→FI N R p (zl N.cells (R.take p)):=by
 intro p;induction p with
 | zero=>
  intro _;exact⟨rfl,fun _ _ _=>rfl,fun x y h=>by simp[zl]at h,fun x y h=>by simp[zl]at h,fun _ _ _ _=>⟨fun x y h=>by simp[zl]at h,fun x y h=>by simp[zl]at h⟩,fun q i hq=>by omega,fun i hi=>⟨by have:=g.small.ni _ (cA_mem hi);simp only[take_zero,zl,foldl_nil];omega,rfl,rfl⟩⟩
 | succ p ih=>
  intro hp;have hi:R[p]? =some R[p]:=getElem?_eq_getElem (by omega)
  rw[zv hi,foldSt_snoc];exact (ih (by omega)).step g o hi
theorem fold_ok{N:NL}{R:List Nat}(g:Good N)(o:Order N.cells R):FoldOk N R:=by
 refine⟨fun p hp x y h=>((FI.all g o p hp).a x y h).2,fun p i hi=> ?_,fun p i hi x hx=> ?_,fun c hc=> ?_⟩
 ·have hp:=(gS.mp hi).1
  have d:=FI.all g o p (by omega)
  obtain⟨h1,h2⟩:=zr.mp ((o.mem i).mp (mem_of_getElem? hi));rw[d.u i h1 (nodup_take o.nd hi)];exact g.comb _ (cA_mem h1) h2
 ·have hp:=(gS.mp hi).1
  have d:=FI.all g o p (by omega)
  obtain⟨h1,h2⟩:=zr.mp ((o.mem i).mp (mem_of_getElem? hi));rw[d.u i h1 (nodup_take o.nd hi)]at hx;exact g.nn _ (sd_valid g o (d.fin (sd_ins g o hi hx)).1)
 ·have d:=FI.all g o R.length (Nat.le_refl _)
  rw[take_length]at d;obtain⟨i,hi,rfl⟩:=mem_cA hc;rw[d.l]at hi;exact (d.e i hi).1
theorem fold_rb{N:NL}{R:List Nat}(g:Good N)(o:Order N.cells R):RB N (zl N.cells R).cells (zl N.cells R).rep∧∀ c∈(bentN N R).cells,NotFold c.kind c.ins:=by
 have d:=FI.all g o R.length (Nat.le_refl _);rw[take_length]at d;have stay:∀ i∈combs N.cells,(zl N.cells R).rep (cA N.cells i).out=none→Stay N R (R.idxOf i) (zl N.cells R).rep i (cA (zl N.cells R).cells i):=by
  intro i hi hr;have h:=idx_get g o hi;rcases d.d _ i (gS.mp h).1 h with q | q
  ·rw[hr]at q;cases q
  ·exact q
 have hu:∀ i,i<N.cells.length→isSt (cA N.cells i).kind=true→cA (zl N.cells R).cells i=cA N.cells i:=by
  intro i hi hk;refine d.u i hi (fun h=> ?_)
  rw[take_length]at h;have:=(zr.mp ((o.mem i).mp h)).2;rw[hk]at this;cases this
 have rb:RB N (zl N.cells R).cells (zl N.cells R).rep:=by
  refine⟨d.l,fun i hi=>(d.e i hi).2.1,hu,fun i hi h=>by rw[(d.e i hi).2.2];exact h,fun x y h=> ?_,fun x y h=>(d.a x y h).2,fun x y h=> ?_,fun i hi hr=> ?_,⟨rankR N R,fun i hi hr x hx j hj e=> ?_⟩,fun pat rows W hW=>⟨(d.c pat rows W hW).1,fun i hi hr=> ?_⟩⟩
  ·obtain⟨⟨q,i,_,h1,h2,_⟩,_⟩:=d.a x y h
   exact⟨i,(o.mem i).mp (mem_of_getElem? h1),h2⟩
  ·obtain⟨⟨q,i,_,_,_,h3⟩,_⟩:=d.a x y h
   exact sd_valid g o h3
  ·have s:=stay i hi hr
   exact⟨s.ok,fun x hx=>sd_valid g o (s.sd x hx).1⟩
  ·have s:=stay i hi hr
   obtain⟨s1,s2⟩:=s.sd x hx;rw[rankR_out g R hj,rankR_out g R hi];have e2:(cA N.cells j).out=x:=by rw[e];unfold Mine.fin;rw[s2];rfl
   rw[← e2]at s1;exact sd_idx g o hj s1
  ·have s:=stay i hi hr
   have hil:=(zr.mp hi).1;refine word_ext (hW.lt _ (mem_append_right _ (mem_map.mpr ⟨_,cA_mem hil,rfl⟩))) wordS_lt (fun j hj=> ?_)
   rw[wordS_bit hj,bits_map]
   ·exact s.va pat rows W hW j hj
   ·intro w hw
    obtain⟨x,hx,rfl⟩:=mem_map.mp hw;exact hW.lt x (sd_valid g o (s.sd x hx).1)
 refine⟨rb,fun c hc=> ?_⟩
 obtain⟨i,hi,hr,rfl⟩:=rb.cells hc;cases hk:isSt (cA N.cells i).kind with
 | true=>
  rw[hu i hi hk];show NotFold (cA N.cells i).kind ((cA N.cells i).ins.map _)
  have:=g.st _ (cA_mem hi) hk;generalize (cA N.cells i).ins.map (Mine.fin (zl N.cells R).rep)=l;generalize (cA N.cells i).ins.length=n at *;generalize (cA N.cells i).kind=k at *;generalize (cA N.cells i).param=p at *;cases this with
  | flop=>exact NotFold.flop l
  | latch=>exact NotFold.latch l
 | false=>
  have s:=stay i (zr.mpr ⟨hi,hk⟩) hr;show NotFold (cA (zl N.cells R).cells i).kind ((cA (zl N.cells R).cells i).ins.map _)
  have hid:(cA (zl N.cells R).cells i).ins.map (Mine.fin (zl N.cells R).rep)=(cA (zl N.cells R).cells i).ins:=by
   conv=>rhs;rw[← map_id (cA (zl N.cells R).cells i).ins]
   apply map_congr_left
   intro x hx;unfold Mine.fin;rw[(s.sd x hx).2];rfl
  rw[hid];exact s.nf
theorem keep_mem{l:List Cell}{S:List Nat}{c:Cell}:c∈zj l S↔∃ i,i<l.length∧i∈S∧cA l i=c:=by
 unfold zj;rw[mem_map];constructor
 ·rintro⟨i,hi,e⟩
  rw[mem_filter,mem_range]at hi;exact⟨i,hi.1,by simpa using hi.2,e⟩
 ·rintro⟨i,h1,h2,e⟩
  exact⟨i,by rw[mem_filter,mem_range];exact⟨h1,by simpa using h2⟩,e⟩
theorem cells_range(l:List Cell):(List.range l.length).map (cA l)=l:=by
 apply List.ext_getElem?
 intro j;rw[getElem?_map];by_cases hj:j<l.length
 ·rw[getElem?_range hj,get_cA hj];rfl
 ·rw[getElem?_eq_none (by simp;omega),getElem?_eq_none (by omega)];rfl
theorem keep_sub(l:List Cell)(S:List Nat):(zj l S).Sublist l:=by
 unfold zj;conv=>rhs;rw[← cells_range l]
 exact List.Sublist.map _ filter_sublist
theorem fin_id(x:Int):Mine.fin (fun _=>none) x=x:=rfl
theorem map_fin_id(l:List Int):l.map (Mine.fin (fun _=>none))=l:=by
 conv=>rhs;rw[← map_id l]
 exact map_congr_left fun x _=>fin_id x
theorem useN_eq(N:NL)(S:List Nat):useN N S=⟨N.name,N.count,N.inputs,N.outputs,zj N.cells S⟩:=by
 unfold useN rebuild;have h1:(zj N.cells S).filter (fun c=>((fun _=>none:Int→Option Int) c.out).isNone)=zj N.cells S:=by
  rw[filter_eq_self];intro c _;rfl
 have h2:(zj N.cells S).map (mapIns fun _=>none)=zj N.cells S:=by
  conv=>rhs;rw[← map_id (zj N.cells S)]
  apply map_congr_left
  intro c _;obtain⟨k,o,i,p⟩:=c;show (⟨k,o,i.map (Mine.fin fun _=>none),p⟩:Cell)=⟨k,o,i,p⟩
  rw[map_fin_id]
 have h3:(N.outputs.map fun p=>(p.1,p.2.map (Mine.fin fun _=>none)))=N.outputs:=by
  conv=>rhs;rw[← map_id N.outputs]
  apply map_congr_left
  intro p _;show (p.1,p.2.map (Mine.fin fun _=>none))=p
  rw[map_fin_id]
 rw[h1,h2,h3]
theorem use_tr{N:NL}{S:List Nat}(g:Good N)(u:UsedOk N S):Tr N (useN N S):=by
 rw[useN_eq];have hsub:=keep_sub N.cells S;have hsup:∀ x∈srcs N++outs N,(∀ b,drvs N.cells x=some b→b∈S)→x∈srcs N++(zj N.cells S).map (·.out):=by
  intro x hx hb;rw[mem_append]at hx ⊢;rcases hx with h | h
  ·exact Or.inl h
  ·right
   obtain⟨c,hc,rfl⟩:=mem_map.mp h;obtain⟨i,hi,rfl⟩:=mem_cA hc;exact mem_map.mpr ⟨_,keep_mem.mpr ⟨i,hi,hb i (drvs_out g.outsNd hi),rfl⟩,rfl⟩
 have hdown:∀ x,x∈srcs N++(zj N.cells S).map (·.out)→x∈srcs N++outs N:=by
  intro x hx;rw[mem_append]at hx ⊢;rcases hx with h | h
  ·exact Or.inl h
  ·exact Or.inr ((List.Sublist.map _ hsub).mem h)
 have hnm:(zu (zj N.cells S)).Sublist (zu N.cells):=by
  unfold zu;exact List.Sublist.map _ (List.Sublist.filter _ hsub)
 have hsm:=g.small;refine⟨⟨⟨hsm.ci,hsm.co,Nat.le_trans hsub.length_le hsm.cc,hsm.pi,hsm.po,fun c hc=>hsm.ni c (hsub.mem hc)⟩,?_,fun c hc hk=>g.comb c (hsub.mem hc) hk,fun c hc hk=>g.st c (hsub.mem hc) hk,fun c hc x hx=> ?_,fun x hx=>hsup x (g.drvO x hx) (fun b hb=>u.cl.1 x hx b hb),fun x hx=>g.nn x (hdown x hx),?_,?_,?_⟩,fun k hk=> ?_,fun pat rows W hs=>⟨⟨hs.z,hs.o,hs.i,fun c hc hk=>hs.s c (hsub.mem hc) hk,fun c hc hk=>hs.c c (hsub.mem hc) hk,fun x hx=>hs.lt x (hdown x hx)⟩,⟨rfl,rfl,rfl,fun c hc=>⟨c,?_,rfl,rfl,rfl,rfl⟩⟩⟩⟩
 ·exact List.Pairwise.sublist (List.Sublist.append (List.Sublist.refl _) (List.Sublist.map _ hsub)) g.nd
 ·obtain⟨i,h1,h2,rfl⟩:=keep_mem.mp hc
  exact hsup x (g.drv _ (cA_mem h1) x hx) (fun b hb=>u.cl.2 i h2 h1 x hx b hb)
 ·obtain⟨rank,hr⟩:=g.acyc
  exact⟨rank,fun c hc hk d hd hkd hin=>hr c (hsub.mem hc) hk d (hsub.mem hd) hkd hin⟩
 ·exact List.Pairwise.sublist hnm g.nmz
 ·have:=hnm.length_le
  have:=g.bits;show (zd N.inputs).length+(zu (zj N.cells S)).length≤6
  omega
 ·rw[keysOf_eq,mem_append]at hk ⊢
  rcases hk with h | h
  ·exact Or.inl h
  ·exact Or.inr ((List.Sublist.map _ hnm).mem h)
 ·rw[sts_mem]at hc ⊢
  exact⟨hsub.mem hc.1,hc.2⟩
theorem use_all{N:NL}{S S':List Nat}(g:Good N)(u:UsedOk N S)(u':UsedOk (useN N S) S'):zj (useN N S).cells S'=(useN N S).cells:=by
 have gB:=(use_tr g u).good;have hcells:(useN N S).cells=zj N.cells S:=by rw[useN_eq]
 have houts:(useN N S).outputs=N.outputs:=by rw[useN_eq]
 have hout:=gB.outsNd;generalize useN N S=B at *;have hB:∀ j,j<B.cells.length→∃ i,i<N.cells.length∧i∈S∧cA N.cells i=cA B.cells j:=by
  intro j hj;have:=cA_mem hj;rw[hcells]at this;obtain⟨i,a,b,c⟩:=keep_mem.mp this;exact⟨i,a,b,by rw[c,← hcells]⟩
 have hS:∀ b,b<N.cells.length→b∈S→∃ j,j<B.cells.length∧cA B.cells j=cA N.cells b∧drvs B.cells (cA N.cells b).out=some j:=by
  intro b h1 h2;have hm:cA N.cells b∈B.cells:=by rw[hcells];exact keep_mem.mpr ⟨b,h1,h2,rfl⟩
  obtain⟨j,hj,e⟩:=mem_cA hm;exact⟨j,hj,e,by rw[← e];exact drvs_out hout hj⟩
 have key:∀ i∈S,∃ j,j∈S'∧(cA B.cells j).out=(cA N.cells i).out:=by
  refine u.mn (fun i=>∃ j,j∈S'∧(cA B.cells j).out=(cA N.cells i).out) ⟨fun x hx b hb=> ?_,fun i hi hil x hx b hb=> ?_⟩
  ·have hbS:=u.cl.1 x hx b hb
   obtain⟨hb1,hb2⟩:=drvs_spec hb;obtain⟨j,hj,e,hd⟩:=hS b hb1 hbS;rw[hb2]at hd;exact⟨j,u'.cl.1 x (by rw[houts];exact hx) j hd,by rw[e]⟩
  ·obtain⟨j,hj,e⟩:=hi
   have hjl:=u'.lt j hj;obtain⟨i',h1,h2,h3⟩:=hB j hjl;have hii:i'=i:=out_inj g.outsNd h1 hil (by rw[h3,e])
   subst hii;have hbS:=u.cl.2 i' h2 hil x hx b hb;obtain⟨hb1,hb2⟩:=drvs_spec hb;obtain⟨j',hj',e',hd⟩:=hS b hb1 hbS;rw[hb2]at hd;exact⟨j',u'.cl.2 j hj hjl x (by rw[← h3];exact hx) j' hd,by rw[e']⟩
 unfold zj;have:(List.range B.cells.length).filter (fun i=>decide (i∈S'))=List.range B.cells.length:=by
  rw[filter_eq_self];intro j hj;rw[mem_range]at hj;obtain⟨i,h1,h2,h3⟩:=hB j hj;obtain⟨j',hj',e⟩:=key i h2;have:=out_inj hout (u'.lt j' hj') hj (by rw[e,h3])
  subst this;simpa using hj'
 rw[this,cells_range]
theorem maths:Maths:=by
 refine⟨fun N g R o=>fold_ok g o,fun N g R o=> ?_,fun N g R o=>drop_ok g o,fun N g R o=> ?_,fun N g S u=>⟨use_tr g u,by rw[useN_eq],fun S' u'=>use_all g u u'⟩⟩
 ·obtain⟨rb,nf⟩:=fold_rb g o
  exact⟨rb.tr g,nf,rb.names g.outsNd⟩
 ·obtain⟨rb,nb⟩:=drop_rb g o
  refine⟨rb.tr g,fun c hc hk=> ?_,rb.names g.outsNd⟩
  obtain⟨i,hi,hr,rfl⟩:=rb.cells hc;have hk':(cA N.cells i).kind=kBuf:=hk;have hst:isSt (cA N.cells i).kind=false:=by rw[hk'];decide
  have:=nb i (zr.mpr ⟨hi,hst⟩) hk';rw[hr]at this;cases this
theorem plain(zs:List Int)(h:zs.length≤63):∃ m' H',exL (callF P 1000 20) 1000 (f_law.body.drop 1) lawStart [.list ((zs.take 63).map .int)]=some (.ret (.bool true),m',H'):=law_walk maths zs h
end
end Mine
section
open PySem PySem.W PyProof.Rows
namespace Mine
abbrev Jm:=List Addr
abbrev tupObj(its:Array Value)(n:Nat):Obj:={ cls:= .type "tuple",data:= .seq its n }
mutual
def Rep(J:Jm)(h:Heap):AV→Value→Prop
 | .none,v=>v= .none
 | .bool b,v=>v= .bool b
 | .int i,v=>∃ t,v= .int i t
 | .str s,v=>(∀ c∈s,c<1114112)∧∃ t,v= .str ⟨s.toArray⟩ t
 | .tup vs,v=>∃ a its n,v= .ref a∧h.get? a=some (tupObj its n)∧RepL J h vs its.toList∧its.size≤2097152
 | .ref k,v=>∃ a,J[k]? =some a∧v= .ref a
def RepL(J:Jm)(h:Heap):List AV→List Value→Prop
 | [],l=>l=[]
 | x::xs,l=>∃ y ys,l=y::ys∧Rep J h x y∧RepL J h xs ys
end
def atomHash(w:World):AV→Int
 | .int i=>PySem.hashInt i
 | .str s=>PySem.hashStr w ⟨s.toArray⟩
 | _=>0
structure Stp(J J':Jm)(h h':Heap)(own:Addr→Prop):Prop where
 pre:J <+: J'
 new:∀ a∈J',a∈J∨h.get? a=none
 keep:∀ a o,h.get? a=some o→a∉J→¬ own a→h'.get? a=some o
 tup:∀ a its n,h.get? a=some (tupObj its n)→h'.get? a=some (tupObj its n)
 alive:∀ a,h.get? a≠none→h'.get? a≠none
def noOwn:Addr→Prop:=fun _=>False
theorem Stp.refl(J:Jm)(h:Heap)(own):Stp J J h h own:=⟨List.prefix_rfl,fun _ x=> .inl x,fun _ _ e _ _=>e,fun _ _ _ e=>e,fun _ e=>e⟩
theorem Stp.trans{J J' J'':Jm}{h h' h'':Heap}{own}(x:Stp J J' h h' own)(y:Stp J' J'' h' h'' own):Stp J J'' h h'' own where
 pre:=x.pre.trans y.pre
 new:=fun a ha=>by
  rcases y.new a ha with q | q
  ·exact x.new a q
  ·right
   cases e:h.get? a with
   | none=>rfl
   | some o=>exact absurd q (x.alive a (by rw[e];simp))
 keep:=fun a o e hJ ho=>y.keep a o (x.keep a o e hJ ho) (fun q=>(x.new a q).elim hJ (fun z=>by rw[z]at e;cases e)) ho
 tup:=fun a its n e=>y.tup a its n (x.tup a its n e)
 alive:=fun a e=>y.alive a (x.alive a e)
theorem Stp.weaken{J J':Jm}{h h':Heap}{own own':Addr→Prop}(x:Stp J J' h h' own)(k:∀ a,own a→own' a):Stp J J' h h' own':=
 ⟨x.pre,x.new,fun a o e hJ ho=>x.keep a o e hJ (fun q=>ho (k a q)),x.tup,x.alive⟩
theorem Stp.of_keeps{J:Jm}{h h':Heap}{own}(k:∀ b o,h.get? b=some o→h'.get? b=some o):Stp J J h h' own:=
 ⟨List.prefix_rfl,fun _ x=> .inl x,fun a o e _ _=>k a o e,fun a its n e=>k a _ e,fun a e=>by
  cases q:h.get? a with
  | none=>exact absurd q e
  | some o=>rw[k a o q];simp⟩
theorem prefix_get{J J':Jm}{k:Nat}{a:Addr}(h:J <+: J')(e:J[k]? =some a):J'[k]? =some a:=by
 obtain⟨t,rfl⟩:=h;rw[List.getElem?_append_left]
 ·exact e
 ·exact (List.getElem?_eq_some_iff.mp e).1
mutual
theorem Rep.mono{J J':Jm}{h h':Heap}{own}(x:Stp J J' h h' own):∀ {v:AV} {val:Value},Rep J h v val→Rep J' h' v val
 | .none,_,e=>e
 | .bool _,_,e=>e
 | .int _,_,e=>e
 | .str _,_,e=>e
 | .tup _,_,⟨a,its,n,e,ho,r,z⟩=>⟨a,its,n,e,x.tup a its n ho,RepL.mono x r,z⟩
 | .ref _,_,⟨a,e,q⟩=>⟨a,prefix_get x.pre e,q⟩
theorem RepL.mono{J J':Jm}{h h':Heap}{own}(x:Stp J J' h h' own):∀ {vs:List AV} {vals:List Value},RepL J h vs vals→RepL J' h' vs vals
 | [],_,e=>e
 | _::_,_,⟨y,ys,e,r,rs⟩=>⟨y,ys,e,Rep.mono x r,RepL.mono x rs⟩
end
theorem RepL.length{J:Jm}{h:Heap}:∀ {vs:List AV} {vals:List Value},RepL J h vs vals→vals.length=vs.length
 | [],_,e=>by rw[e];rfl
 | _::_,_,⟨y,ys,e,_,rs⟩=>by rw[e,List.length_cons,List.length_cons,RepL.length rs]
theorem RepL.append{J:Jm}{h:Heap}:∀ {vs ws:List AV} {vals wals:List Value},RepL J h vs vals→RepL J h ws wals→RepL J h (vs++ws) (vals++wals)
 | [],_,_,_,e,r=>by rw[e];exact r
 | _::_,_,_,_,⟨y,ys,e,q,rs⟩,r=>by rw[e];exact⟨y,_,rfl,q,RepL.append rs r⟩
theorem RepL.get{J:Jm}{h:Heap}:∀ {vs:List AV} {vals:List Value} {i:Nat} {v:AV},RepL J h vs vals→vs[i]? =some v→∃ val,vals[i]? =some val∧Rep J h v val
 | [],_,_,_,_,e=>by simp at e
 | _::_,_,0,_,⟨y,ys,e,q,_⟩,r=>by subst e;simp only[List.getElem?_cons_zero,Option.some.injEq]at r ⊢;subst r;exact⟨y,rfl,q⟩
 | _::_,_,i+1,_,⟨y,ys,e,_,rs⟩,r=>by subst e;simp only[List.getElem?_cons_succ]at r ⊢;exact RepL.get rs r
theorem RepL.set{J:Jm}{h:Heap}{x:AV}{y:Value}(r:Rep J h x y):∀ {vs:List AV} {vals:List Value} (i:Nat),RepL J h vs vals→RepL J h (vs.set i x) (vals.set i y)
 | [],_,_,e=>by rw[e];exact rfl
 | _::_,_,0,⟨y',ys,e,_,rs⟩=>by subst e;exact⟨y,ys,rfl,r,rs⟩
 | _::_,_,i+1,⟨y',ys,e,q,rs⟩=>by subst e;exact⟨y',_,rfl,q,RepL.set r i rs⟩
theorem RepL.take{J:Jm}{h:Heap}:∀ {vs:List AV} {vals:List Value} (i:Nat),RepL J h vs vals→RepL J h (vs.take i) (vals.take i)
 | [],_,_,e=>by rw[e];simp[RepL]
 | _::_,_,0,⟨y',ys,e,_,rs⟩=>by simp[RepL]
 | _::_,_,i+1,⟨y',ys,e,q,rs⟩=>by subst e;exact⟨y',_,rfl,q,RepL.take i rs⟩
def keyHash(w:World):AV→Int
 | .int i=>PySem.hashInt i
 | .str s=>PySem.hashStr w ⟨s.toArray⟩
 | .tup vs=>reduceHash (Builtin.Tuple.tupleHashOf (vs.map (atomHash w)))
 | _=>0
inductive DRep(w:World)(J:Jm)(h:Heap):List (AV × AV)→List DictEntry→Prop where
 | nil:DRep w J h [] []
 | cons {k v:AV} {hs:Int} {key val:Value} {es:List (AV × AV)} {ds:List DictEntry} (hk:isKey k=true) (rk:Rep J h k key) (rv:Rep J h v val)
   (hh:hs=keyHash w k) (r:DRep w J h es ds):DRep w J h ((k,v)::es) (⟨hs,key,val⟩::ds)
def ORep(w:World)(C:Addr)(J:Jm)(h:Heap)(a:Addr):AO→Prop
 | .list vs=>∃ its n,h.get? a=some (listOf its n)∧RepL J h vs its.toList∧its.size≤2097152
 | .dict es=>∃ ds n,h.get? a=some (dictOf ds n)∧DRep w J h es ds∧(es.map (·.1)).Nodup∧n=es.length
 | .inst d=>∃ dx,J[d]? =some dx∧h.get? a=some (instObj C dx)
structure HRep(w:World)(C:Addr)(J:Jm)(H:Hp)(h:Heap):Prop where
 len:J.length=H.length
 nodup:J.Nodup
 obj:∀ (k:Nat) (o:AO) (a:Addr),H[k]? =some o→J[k]? =some a→ORep w C J h a o
theorem DRep.mono{w:World}{J J':Jm}{h h':Heap}{own}(x:Stp J J' h h' own):∀ {es ds},DRep w J h es ds→DRep w J' h' es ds
 | _,_,.nil=> .nil
 | _,_,.cons hk rk rv hh r=> .cons hk (rk.mono x) (rv.mono x) hh (r.mono x)
theorem ORep.mono{w:World}{C:Addr}{J J':Jm}{h h':Heap}{own}(x:Stp J J' h h' own){a:Addr}{o:AO}(e:∀ ob,h.get? a=some ob→h'.get? a=some ob)(r:ORep w C J h a o):ORep w C J' h' a o:=by
 cases o with
 | list vs=>obtain ⟨its,n,q,rl,z⟩:=r;exact⟨its,n,e _ q,rl.mono x,z⟩
 | dict es=>obtain ⟨ds,n,q,rl,nd⟩:=r;exact⟨ds,n,e _ q,rl.mono x,nd⟩
 | inst d=>obtain ⟨dx,q,rl⟩:=r;exact⟨dx,prefix_get x.pre q,e _ rl⟩
theorem ORep.alive{w:World}{C:Addr}{J:Jm}{h:Heap}{a:Addr}{o:AO}(r:ORep w C J h a o):h.get? a≠none:=by
 cases o with
 | list vs=>obtain ⟨its,n,q,_⟩:=r;rw[q];simp
 | dict es=>obtain ⟨ds,n,q,_⟩:=r;rw[q];simp
 | inst d=>obtain ⟨dx,q,rl⟩:=r;rw[rl];simp
theorem ORep.notTup{w:World}{C:Addr}{J:Jm}{h:Heap}{a:Addr}{o:AO}(r:ORep w C J h a o):∀ its n,h.get? a≠some (tupObj its n):=by
 intro its n e;cases o with
 | list vs=>obtain ⟨its',n',q,_⟩:=r;rw[q]at e;injection e with e;injection e with e1;injection e1 with e1;exact absurd e1 (by decide)
 | dict es=>obtain ⟨ds,n',q,_⟩:=r;rw[q]at e;injection e with e;injection e with e1;injection e1 with e1;exact absurd e1 (by decide)
 | inst d=>obtain ⟨dx,q,rl⟩:=r;rw[rl]at e;injection e with e;injection e with e1;cases e1
structure Cx where
 prog:Program
 w:World
 C:Addr
 hb:Heap
 K:Frag
 p:Program
 loose:List Str
 mg:Str→Option Value
 mb:Str→Option Value
structure CxOk(cx:Cx):Prop where
 X:cx.K.In cx.hb
 T:TopRead cx.p cx.loose cx.mg cx.mb cx.hb
abbrev Cx.M(cx:Cx):Model:=model cx.prog cx.w
structure Inv(cx:Cx)(J:Jm)(H:Hp)(h:Heap):Prop where
 rep:HRep cx.w cx.C J H h
 base:cx.hb.StaysIn h
 above:∀ a∈J,cx.hb.get? a=none
 stat:cx.hb.get? cStatics≠none
 sys:∀ a∈J,a≠sysModules
theorem Inv.aliveJ{cx:Cx}{J:Jm}{H:Hp}{h:Heap}(I:Inv cx J H h){a:Addr}(ha:a∈J):h.get? a≠none:=by
 obtain⟨k,hk,rfl⟩:=List.getElem_of_mem ha;have hk':=hk;rw[I.rep.len]at hk';exact (I.rep.obj k _ _ (List.getElem?_eq_getElem hk') (List.getElem?_eq_getElem hk)).alive
theorem Inv.notTup{cx:Cx}{J:Jm}{H:Hp}{h:Heap}(I:Inv cx J H h){a:Addr}(ha:a∈J):∀ its n,h.get? a≠some (tupObj its n):=by
 obtain⟨k,hk,rfl⟩:=List.getElem_of_mem ha;have hk':=hk;rw[I.rep.len]at hk';exact (I.rep.obj k _ _ (List.getElem?_eq_getElem hk') (List.getElem?_eq_getElem hk)).notTup
theorem mem_of_get{J:Jm}{k:Nat}{a:Addr}(e:J[k]? =some a):a∈J:=List.mem_of_getElem? e
theorem Inv.keeps{cx:Cx}{J:Jm}{H:Hp}{h h':Heap}(I:Inv cx J H h)(k:∀ b o,h.get? b=some o→h'.get? b=some o):Inv cx J H h':=by
 have S:Stp J J h h' noOwn:=Stp.of_keeps k;exact⟨⟨I.rep.len,I.rep.nodup,fun i o a e q=>(I.rep.obj i o a e q).mono S (k a)⟩,fun b o e=>k b o (I.base b o e),I.above,I.stat,I.sys⟩
theorem Inv.stp{cx:Cx}{J:Jm}{H:Hp}{h h':Heap}{a:Addr}(I:Inv cx J H h)(ha:a∈J)(hs:Heap.SameBut a h h')(hal:h'.get? a≠none):Stp J J h h' noOwn:=
 ⟨List.prefix_rfl,fun _ x=> .inl x,fun b o e hJ _=>(hs.2 b (fun q=>hJ (q ▸ ha))).trans e,fun b its n e=>(hs.2 b (fun q=>I.notTup ha its n (q ▸ e))).trans e,
  fun b e=>by
   by_cases q:b=a
   ·rw[q];exact hal
   ·rw[hs.2 b q];exact e⟩
theorem Inv.set{cx:Cx}{J:Jm}{H:Hp}{h h':Heap}{k:Nat}{a:Addr}{o':AO}(I:Inv cx J H h)(hJ:J[k]? =some a)(hs:Heap.SameBut a h h')(r:ORep cx.w cx.C J h' a o'):Inv cx J (H.set k o') h':=by
 have S:=I.stp (mem_of_get hJ) hs r.alive;refine⟨⟨by rw[List.length_set];exact I.rep.len,I.rep.nodup,fun i o b e q=> ?_⟩,fun b o e=>(hs.2 b (fun z=> ?_)).trans (I.base b o e),I.above,I.stat,I.sys⟩
 ·by_cases hik:k=i
  ·subst hik
   rw[hJ]at q;injection q with q;subst q
   have hlt:k<H.length:=by
    have:=(List.getElem?_eq_some_iff.mp e).1;rwa [List.length_set]at this
   rw[List.getElem?_set_self hlt]at e;injection e with e;subst e
   exact r
  ·rw[List.getElem?_set_ne hik]at e
   have hne:b≠a:=by
    intro z;subst z;have h1:=(List.getElem?_eq_some_iff.mp hJ);have h2:=(List.getElem?_eq_some_iff.mp q);exact hik ((List.getElem_inj I.rep.nodup).mp (h1.2.trans h2.2.symm))
   exact (I.rep.obj i o b e q).mono S (fun ob z=>(hs.2 b hne).trans z)
 ·have:=I.above a (mem_of_get hJ)
  rw[← z,e]at this;cases this
theorem fresh_size(h:Heap):h.get? h.objs.size=none:=by
 cases e:h.get? h.objs.size with
 | none=>rfl
 | some o=>exact absurd (Heap.lt_size e) (Nat.lt_irrefl _)
theorem Inv.size_ne{cx:Cx}{J:Jm}{H:Hp}{h:Heap}(I:Inv cx J H h):h.objs.size≠sysModules:=by
 intro e;cases q:cx.hb.get? cStatics with
 | none=>exact I.stat q
 | some o=>
  have h1:=Heap.lt_size (I.base _ _ q);rw[e]at h1;exact absurd h1 (by decide)
theorem Inv.newStp{J:Jm}{h h':Heap}{a:Addr}(ha:h.get? a=none)(k:∀ b o,h.get? b=some o→h'.get? b=some o):Stp J (J++[a]) h h' noOwn:=
 ⟨List.prefix_append _ _,fun b hb=>by
  rcases List.mem_append.mp hb with q | q
  ·exact .inl q
  ·rw[List.mem_singleton.mp q];exact .inr ha,fun b o e _ _=>k b o e,fun b its n e=>k b _ e,fun b e=>by
  cases q:h.get? b with
  | none=>exact absurd q e
  | some o=>rw[k b o q];simp⟩
theorem Inv.push{cx:Cx}{J:Jm}{H:Hp}{h h':Heap}{a:Addr}{o:AO}(I:Inv cx J H h)(ha:h.get? a=none)(hsy:a≠sysModules)(k:∀ b o,h.get? b=some o→h'.get? b=some o)
  (r:ORep cx.w cx.C (J++[a]) h' a o):Inv cx (J++[a]) (H++[o]) h':=by
 have S:Stp J (J++[a]) h h' noOwn:=Inv.newStp ha k;refine⟨⟨by simp[I.rep.len],?_,fun i o' b e q=> ?_⟩,fun b o e=>k b o (I.base b o e),fun b hb=> ?_,I.stat,fun b hb=>(List.mem_append.mp hb).elim (I.sys b) (fun q=>by rw[List.mem_singleton.mp q];exact hsy)⟩
 ·refine List.nodup_append.mpr ⟨I.rep.nodup,by simp,?_⟩
  intro x hx y hy;rw[List.mem_singleton.mp hy];rintro rfl
  exact I.aliveJ hx ha
 ·by_cases hi:i<H.length
  ·rw[List.getElem?_append_left hi]at e
   have hi':i<J.length:=by rw[I.rep.len];exact hi
   rw[List.getElem?_append_left hi']at q;exact (I.rep.obj i o' b e q).mono S (fun ob z=>k b ob z)
  ·have hlt:=(List.getElem?_eq_some_iff.mp e).1
   rw[List.length_append,List.length_singleton]at hlt;have hii:i=H.length:=by omega
   subst hii;rw[List.getElem?_append_right (Nat.le_refl _),Nat.sub_self]at e;rw[← I.rep.len,List.getElem?_append_right (Nat.le_refl _),Nat.sub_self]at q;simp only[List.getElem?_cons_zero,Option.some.injEq]at e q;subst e q;exact r
 ·rcases List.mem_append.mp hb with q | q
  ·exact I.above b q
  ·rw[List.mem_singleton.mp q]
   cases z:cx.hb.get? a with
   | none=>rfl
   | some o'=>rw[I.base a o' z]at ha;cases ha
theorem getJ_last{J:Jm}{H:Hp}{a:Addr}(h:J.length=H.length):(J++[a])[H.length]? =some a:=by
 rw[← h,List.getElem?_append_right (Nat.le_refl _),Nat.sub_self];rfl
def EPost(cx:Cx)(J:Jm)(s:Shared)(v:AV)(H':Hp)(val:Value)(s':Shared):Prop:=
 (∃ h tk,s'={ s with heap:=h,toks:=tk })∧∃ J',Stp J J' s.heap s'.heap noOwn∧Inv cx J' H' s'.heap∧Rep J' s'.heap v val
theorem same_trans{s s' s'':Shared}(x:∃ h tk,s'={ s with heap:=h,toks:=tk })(y:∃ h tk,s''={ s' with heap:=h,toks:=tk }):∃ h tk,s''={ s with heap:=h,toks:=tk }:=by
 obtain⟨h,tk,rfl⟩:=x;obtain⟨h',tk',rfl⟩:=y;exact⟨h',tk',rfl⟩
theorem EPost.trans{cx:Cx}{J J':Jm}{s s':Shared}{v:AV}{H':Hp}{val:Value}{s'':Shared}(e:∃ h tk,s'={ s with heap:=h,toks:=tk })(x:Stp J J' s.heap s'.heap noOwn)(p:EPost cx J' s' v H' val s''):EPost cx J s v H' val s'':=by
 obtain⟨e',J'',y,I,r⟩:=p;exact⟨same_trans e e',J'',x.trans y,I,r⟩
theorem EPost.pure{cx:Cx}{J:Jm}{s:Shared}{v:AV}{H:Hp}{val:Value}{tk:Nat}(I:Inv cx J H s.heap)(r:Rep J s.heap v val):EPost cx J s v H val { s with toks:=tk }:=
 ⟨⟨s.heap,tk,rfl⟩,J,Stp.refl _ _ _,I,r⟩
theorem EPost.keeps{cx:Cx}{J:Jm}{s:Shared}{v:AV}{H:Hp}{val:Value}{h:Heap}{tk:Nat}(I:Inv cx J H s.heap)(k:∀ b o,s.heap.get? b=some o→h.get? b=some o)(r:Rep J s.heap v val):EPost cx J s v H val { s with heap:=h,toks:=tk }:=
 ⟨⟨h,tk,rfl⟩,J,Stp.of_keeps k,I.keeps k,r.mono (Stp.of_keeps (own:=noOwn) k)⟩
theorem EPost.set{cx:Cx}{J:Jm}{s:Shared}{v:AV}{H:Hp}{val:Value}{h:Heap}{tk:Nat}{k:Nat}{a:Addr}{o':AO}(I:Inv cx J H s.heap)(hJ:J[k]? =some a)(hs:Heap.SameBut a s.heap h)
  (r:Stp J J s.heap h noOwn→ORep cx.w cx.C J h a o') (hal:h.get? a≠none) (rv:Rep J s.heap v val):EPost cx J s v (H.set k o') val { s with heap:=h,toks:=tk }:=by
 have S:=I.stp (mem_of_get hJ) hs hal;exact⟨⟨h,tk,rfl⟩,J,S,I.set hJ hs (r S),rv.mono S⟩
theorem EPost.push{cx:Cx}{J:Jm}{s:Shared}{H:Hp}{h:Heap}{tk:Nat}{o:AO}(I:Inv cx J H s.heap)(k:∀ b o,s.heap.get? b=some o→h.get? b=some o)
  (r:Stp J (J++[s.heap.objs.size]) s.heap h noOwn→ORep cx.w cx.C (J++[s.heap.objs.size]) h s.heap.objs.size o):EPost cx J s (.ref H.length) (H++[o]) (.ref s.heap.objs.size) { s with heap:=h,toks:=tk }:=by
 have S:Stp J (J++[s.heap.objs.size]) s.heap h noOwn:=Inv.newStp (fresh_size _) k;exact⟨⟨h,tk,rfl⟩,J++[s.heap.objs.size],S,I.push (fresh_size _) I.size_ne k (r S),s.heap.objs.size,getJ_last I.rep.len,rfl⟩
end Mine
end
section
open PySem PySem.W PyProof.Rows
namespace Mine
def opr:Op→Operator
 | .add=> .Add | .sub=> .Sub | .mul=> .Mult | .fdiv=> .FloorDiv | .mod=> .Mod | .pow=> .Pow | .shl=> .LShift | .shr=> .RShift | .band=> .BitAnd | .bor=> .BitOr | .bxor=> .BitXor
theorem bitNot_eq(x:Int):Builtin.bitNot x= -x - 1:=by unfold Builtin.bitNot;omega
theorem bitAnd_nn{a b:Int}(ha:0≤a)(hb:0≤b):Builtin.bitAnd a b=((a.toNat &&& b.toNat:Nat):Int):=by
 unfold Builtin.bitAnd;rw[decide_eq_true ha,decide_eq_true hb]
theorem bitOr_nn{a b:Int}(ha:0≤a)(hb:0≤b):Builtin.bitOr a b=((a.toNat ||| b.toNat:Nat):Int):=by
 unfold Builtin.bitOr Builtin.bitAnd;rw[decide_eq_false (by rw[bitNot_eq];omega),decide_eq_false (by rw[bitNot_eq];omega)]
 dsimp only
 have e1:Builtin.bitNot (Builtin.bitNot a)=a:=by rw[bitNot_eq,bitNot_eq];omega
 have e2:Builtin.bitNot (Builtin.bitNot b)=b:=by rw[bitNot_eq,bitNot_eq];omega
 rw[e1,e2,bitNot_eq,bitNot_eq];omega
theorem xor_and_add(n:Nat):∀ a b:Nat,a<2^n→(a ^^^ b)+2 * (a &&& b)=a+b:=by
 induction n with
 | zero=>
  intro a b h;have:a=0:=by omega
  subst this;simp
 | succ n ih=>
  intro a b h;have h1:=ih (a/2) (b/2) (by omega)
  have e1:(a ^^^ b) / 2=a/2 ^^^ b/2:=Nat.xor_div_two;have e2:(a &&& b) / 2=a/2 &&& b/2:=Nat.and_div_two;have m1:(a ^^^ b) % 2=(a % 2) ^^^ (b % 2):=Nat.xor_mod_two_pow (n:=1);have m2:(a &&& b) % 2=(a % 2) &&& (b % 2):=Nat.and_mod_two_pow (n:=1);rw[← e1,← e2]at h1;clear e1 e2;rcases Nat.mod_two_eq_zero_or_one a with x | x<;>rcases Nat.mod_two_eq_zero_or_one b with y | y<;>rw[x,y]at m1 m2
  ·replace m1:_=0:=m1;replace m2:_=0:=m2;omega
  ·replace m1:_=1:=m1;replace m2:_=0:=m2;omega
  ·replace m1:_=1:=m1;replace m2:_=0:=m2;omega
  ·replace m1:_=0:=m1;replace m2:_=1:=m2;omega
theorem or_and_add(n:Nat):∀ a b:Nat,a<2^n→(a ||| b)+(a &&& b)=a+b:=by
 induction n with
 | zero=>
  intro a b h;have:a=0:=by omega
  subst this;simp
 | succ n ih=>
  intro a b h;have h1:=ih (a/2) (b/2) (by omega)
  have e1:(a ||| b) / 2=a/2 ||| b/2:=Nat.or_div_two;have e2:(a &&& b) / 2=a/2 &&& b/2:=Nat.and_div_two;have m1:(a ||| b) % 2=(a % 2) ||| (b % 2):=Nat.or_mod_two_pow (n:=1);have m2:(a &&& b) % 2=(a % 2) &&& (b % 2):=Nat.and_mod_two_pow (n:=1);rw[← e1,← e2]at h1;clear e1 e2;rcases Nat.mod_two_eq_zero_or_one a with x | x<;>rcases Nat.mod_two_eq_zero_or_one b with y | y<;>rw[x,y]at m1 m2
  ·replace m1:_=0:=m1;replace m2:_=0:=m2;omega
  ·replace m1:_=1:=m1;replace m2:_=0:=m2;omega
  ·replace m1:_=1:=m1;replace m2:_=0:=m2;omega
  ·replace m1:_=1:=m1;replace m2:_=1:=m2;omega
theorem bitXor_nn{a b:Int}(ha:0≤a)(hb:0≤b):Builtin.bitXor a b=((a.toNat ^^^ b.toNat:Nat):Int):=by
 unfold Builtin.bitXor;rw[bitOr_nn ha hb,bitAnd_nn ha hb];have h1:=xor_and_add a.toNat a.toNat b.toNat Nat.lt_two_pow_self;have h2:=or_and_add a.toNat a.toNat b.toNat Nat.lt_two_pow_self;omega
theorem intBits_small{a:Int}(h0:0≤a)(h:a<mulLid):Builtin.Int.intBits a≤64:=by
 unfold Builtin.Int.intBits;split
 ·omega
 ·rename_i q
  have:a.natAbs≠0:=by intro z;exact q (by simp;omega)
  have:a.natAbs.log2<32:=(Nat.log2_lt this).mpr (by unfold mulLid at h;omega)
  omega
theorem noPylong{a b:Int}(h:0<b)(hb:b<mulLid):Builtin.divisionGoesByPylong a b=false:=by
 unfold Builtin.divisionGoesByPylong;have h0:b.natAbs≠0:=by omega
 have:b.natAbs.log2<32:=(Nat.log2_lt h0).mpr (by unfold mulLid at hb;omega)
 have:b.natAbs.log2 / 30+1≤2:=by omega
 simp only[Bool.and_eq_false_iff,decide_eq_false_iff_not];left
 split<;>omega
section
variable {cx:Cx} {A:Around} {E:Value→Shared→Prop} {s:Shared} {J:Jm} {H:Hp}
theorem s_intOp{o:Op}{a b r:Int}{t u:Tok}{Q:Value→Shared→Prop}(h:intOp o a b=some r)(hQ:∀ t' tk,Q (.int r t') { s with toks:=tk }):
  wpAny cx.M A (binaryOp (opr o) (.int a t) (.int b u)) Q E s:=by
 cases o with
 | add=>cases h;simp only[opr];with_reducible exact PyProof.Rows.add_int (hQ _ _)
 | sub=>cases h;simp only[opr];with_reducible exact sub_int' (hQ _ _)
 | mul=>
  simp only[intOp]at h;split at h
  ·rename_i q;cases h;simp only[opr];with_reducible exact mul_int (hQ _ _) (IntMulOk.of_left (intBits_small q.2.2.1 q.2.2.2))
  ·cases h
 | fdiv=>
  simp only[intOp]at h;split at h
  ·rename_i q;cases h;simp only[opr]
   with_reducible refine floordiv_int (by omega) ?_ (.inl (noPylong q.1 q.2))
   rw[Int.fdiv_eq_ediv_of_nonneg _ (Int.le_of_lt q.1)];exact hQ _ _
  ·cases h
 | mod=>
  simp only[intOp]at h;split at h
  ·rename_i q;cases h;simp only[opr]
   with_reducible refine mod_int' (by omega) ?_
   rw[Int.fmod_eq_emod_of_nonneg _ (Int.le_of_lt q)];exact hQ _ _
  ·cases h
 | pow=>
  simp only[intOp]at h;split at h
  ·rename_i q;obtain⟨rfl,q1,q2⟩:=q;cases h;simp only[opr]
   with_reducible exact pow_int_small q1 (by unfold powLid at q2;omega) (by decide) (hQ _ _)
  ·cases h
 | shl=>
  simp only[intOp]at h;split at h
  ·rename_i q;cases h;simp only[opr]
   with_reducible exact lshift_int_small q.1 (by have:=q.2.1;unfold shlLid at this;omega) (by have:=q.2.2;unfold mulLid at this;omega) (hQ _ _)
  ·cases h
 | shr=>
  simp only[intOp]at h;split at h
  ·rename_i q;cases h;simp only[opr]
   with_reducible refine rshift_int q.1 ?_
   rw[Int.fdiv_eq_ediv_of_nonneg _ (Int.le_of_lt (Int.pow_pos (by decide)))];exact hQ _ _
  ·cases h
 | band=>
  simp only[intOp,band]at h;split at h
  ·rename_i q;cases h;simp only[opr];with_reducible refine and_int ?_;rw[bitAnd_nn q.1 q.2];exact hQ _ _
  ·cases h
 | bor=>
  simp only[intOp,bor]at h;split at h
  ·rename_i q;cases h;simp only[opr];with_reducible refine or_int ?_;rw[bitOr_nn q.1 q.2];exact hQ _ _
  ·cases h
 | bxor=>
  simp only[intOp,bxor]at h;split at h
  ·rename_i q;cases h;simp only[opr];with_reducible refine xor_int ?_;rw[bitXor_nn q.1 q.2];exact hQ _ _
  ·cases h
theorem s_iintOp{o:Op}{a b r:Int}{t u:Tok}{Q:Value→Shared→Prop}(h:intOp o a b=some r)(ho:o= .add∨o= .sub∨o= .bor)(hQ:∀ t' tk,Q (.int r t') { s with toks:=tk }):
  wpAny cx.M A (inplaceOp (opr o) (.int a t) (.int b u)) Q E s:=by
 rcases ho with rfl | rfl | rfl<;>simp only[opr]
 ·cases h;with_reducible exact PyProof.Rows.iadd_int (hQ _ _)
 ·cases h;with_reducible exact isub_int (hQ _ _)
 ·simp only[intOp,bor]at h;split at h
  ·rename_i q;cases h;with_reducible refine ior_int ?_;rw[bitOr_nn q.1 q.2];exact hQ _ _
  ·cases h
theorem strAppend(x y:Nm):((⟨x.toArray⟩:PySem.Str)++(⟨y.toArray⟩:PySem.Str))=⟨(x++y).toArray⟩:=by
 show PySem.Str.append _ _=_
 unfold PySem.Str.append;simp
theorem s_binV{o:Op}{a b v:AV}{va vb:Value}{H':Hp}(I:Inv cx J H s.heap)(ra:Rep J s.heap a va)(rb:Rep J s.heap b vb)(h:binV H o a b=some (v,H')):
  wpAny cx.M A (binaryOp (opr o) va vb) (EPost cx J s v H') E s:=by
 unfold binV at h;split at h
 ·obtain⟨t,rfl⟩:=ra;obtain⟨u,rfl⟩:=rb
  simp only[Option.map_eq_some_iff]at h;obtain⟨r,hr,e⟩:=h;cases e;with_reducible refine s_intOp hr ?_
  exact fun t' tk=>EPost.pure I ⟨t',rfl⟩
 ·rename_i x y
  obtain⟨oka,t,rfl⟩:=ra;obtain⟨okb,u,rfl⟩:=rb;split at h
  ·split at h
   ·rename_i q
    cases h;simp only[opr];with_reducible refine add_str (fun t' tk=> ?_) ?_
    ·rw[strAppend];exact EPost.pure I ⟨fun c hc=>(List.mem_append.mp hc).elim (oka c) (okb c),t',rfl⟩
    ·have:lenLid=1048576:=rfl
     simp only[PySem.Str.length,List.size_toArray];have:sizeLine=16777216:=by decide
     omega
   ·cases h
  ·cases h
 ·rename_i x y
  split at h
  ·rename_i xs ys hx hy
   split at h
   ·rename_i q
    cases h;obtain⟨ax,hax,rfl⟩:=ra;obtain⟨ay,hay,rfl⟩:=rb;obtain⟨ix,nx,ex,rx,_⟩:=I.rep.obj _ _ _ hx hax;obtain⟨iy,ny,ey,ry,_⟩:=I.rep.obj _ _ _ hy hay;have lx:=rx.length;have ly:=ry.length;simp only[Array.length_toList]at lx ly;have z1:lenLid=1048576:=rfl;have z2:sizeLine=16777216:=by decide
    simp only[opr];have Tx:s.TypeIs (.ref ax) "list" :=⟨_,ex,rfl⟩;have Ty:s.TypeIs (.ref ay) "list" :=⟨_,ey,rfl⟩;have W:=list_addW ax ay ix iy nx ny none none #[] #[] (by omega)
    refine @concat_meets _ _ _ _ _ _ _ _ _ _ _ _ Tx Ty noFill_list_add seq_list_add PySem.F.slot_list_add PySem.F.entry_list_add (PySem.F.args_list_add_2 _ _) W ?_
    refine⟨ex,ey,?_⟩
    show EPost cx J s _ _ (.ref s.heap.objs.size) { s with heap:=s.heap.push _ }
    exact EPost.push (tk:=s.toks) I (fun b o e=>Heap.get?_push_of_some _ e) fun S=>
     ⟨_,0,Heap.get?_push_size _ rfl,by rw[Array.toList_append];exact (rx.mono S).append (ry.mono S),by rw[Array.size_append];omega⟩
   ·cases h
  ·cases h
 ·cases h
end
end Mine
end
section
open PySem PySem.W PyProof.Rows
namespace Mine
mutual
def pdD:PyData→D
 | .none=> .none
 | .bool b=> .int (if b then 1 else 0)
 | .int i=> .int i
 | .str x=> .str x.cps.toList
 | .tuple ds=> .tup (pdDs ds)
 | .list ds=> .list (pdDs ds)
 | .dict _=> .none
def pdDs:List PyData→List D
 | []=>[]
 | d::ds=>pdD d::pdDs ds
end
theorem str_cps(x y:PySem.Str):(x == y)=decide (x.cps.toList=y.cps.toList):=by
 by_cases h:x=y
 ·subst h;simp
 ·have h2:x.cps.toList≠y.cps.toList:=by
   intro e;apply h;cases x;cases y;simp only[PySem.Str.mk.injEq];exact Array.toList_inj.mp e
  rw[decide_eq_false h2];simpa using h
theorem ibeq(i j:Int):(i == j)=decide (i=j):=by by_cases h:i=j<;>simp[h]
theorem bbeq(i j:Bool):(i == j)=decide ((if i then 1 else 0:Int)=(if j then 1 else 0)):=by cases i<;>cases j<;>rfl
mutual
theorem eqv_pd:∀ (a b:PyData),a.canLay0=true→b.canLay0=true→PyData.eqv a b=decide (pdD a=pdD b)
 | .none,b,_,h=>by cases b<;>simp_all [PyData.eqv,pdD,PyData.canLay0]
 | .bool x,b,_,h=>by
  cases b with
  | bool y=>simp only[PyData.eqv,pdD,bbeq,D.int.injEq]
  | int y=>simp only[PyData.eqv,pdD,ibeq,D.int.injEq]
  | _=>simp_all [PyData.eqv,pdD,PyData.canLay0]
 | .int x,b,_,h=>by
  cases b with
  | bool y=>simp only[PyData.eqv,pdD,ibeq,D.int.injEq]
  | int y=>simp only[PyData.eqv,pdD,ibeq,D.int.injEq]
  | _=>simp_all [PyData.eqv,pdD,PyData.canLay0]
 | .str x,b,_,h=>by
  cases b with
  | str y=>simp only[PyData.eqv,pdD,str_cps,D.str.injEq]
  | _=>simp_all [PyData.eqv,pdD,PyData.canLay0]
 | .list xs,b,h',h=>by
  cases b with
  | list ys=>
   simp only[PyData.canLay0]at h h';simp only[PyData.eqv,pdD,D.list.injEq];exact eqv_pds xs ys h' h
  | _=>simp_all [PyData.eqv,pdD,PyData.canLay0]
 | .tuple xs,b,h',h=>by
  cases b with
  | tuple ys=>
   simp only[PyData.canLay0]at h h';simp only[PyData.eqv,pdD,D.tup.injEq];exact eqv_pds xs ys h' h
  | _=>simp_all [PyData.eqv,pdD,PyData.canLay0]
 | .dict _,b,h',_=>by simp[PyData.canLay0]at h'
theorem eqv_pds:∀ (a b:List PyData),PyData.canLayAll0 a=true→PyData.canLayAll0 b=true→PyData.eqvAll a b=decide (pdDs a=pdDs b)
 | [],b,_,h=>by cases b<;>simp[PyData.eqvAll,pdDs]
 | x::xs,b,h',h=>by
  cases b with
  | nil=>simp[PyData.eqvAll,pdDs]
  | cons y ys=>
   simp only[PyData.canLayAll0,Bool.and_eq_true]at h h';simp only[PyData.eqvAll,pdDs,List.cons.injEq,eqv_pd x y h'.1 h.1,eqv_pds xs ys h'.2 h.2];rw[Bool.decide_and]
end
section
variable {cx:Cx} {J:Jm} {H:Hp} {h:Heap}
theorem mapM_cons_some{α β:Type}{f:α→Option β}{x:α}{xs:List α}{r:List β}(e:(x::xs).mapM f=some r):∃ y ys,f x=some y∧xs.mapM f=some ys∧r=y::ys:=by
 rw[List.mapM_cons]at e;simp only[Option.bind_eq_bind,Option.pure_def,Option.bind_eq_some_iff,Option.some.injEq]at e;obtain⟨y,hy,ys,hys,rfl⟩:=e;exact⟨y,ys,hy,hys,rfl⟩
theorem res_readsL{n:Nat}(ih:∀ {v:AV} {val:Value} {d:D},Rep J h v val→res H n v=some d→∃ pd as,Reads h val pd as∧pd.canLay0=true∧pd.depth≤n∧pdD pd=d):
  ∀ {vs:List AV} {vals:List Value} {ds:List D},RepL J h vs vals→vs.mapM (res H n)=some ds→∃ pds as,ReadsAll h vals pds as∧PyData.canLayAll0 pds=true∧PyData.depthAll pds≤n∧pdDs pds=ds
 | [],_,_,e,q=>by
  subst e;simp at q;subst q;exact⟨[],[],.nil,rfl,by simp[PyData.depthAll],rfl⟩
 | v::vs,_,_,⟨y,ys,e,r,rs⟩,q=>by
  subst e;obtain⟨d,ds',hd,hds,rfl⟩:=mapM_cons_some q;obtain⟨pd,as,h1,h2,h3,h4⟩:=ih r hd;obtain⟨pds,bs,k1,k2,k3,k4⟩:=res_readsL ih rs hds;exact⟨pd::pds,_,.cons h1 k1,by simp[PyData.canLayAll0,h2,k2],by simp only[PyData.depthAll];omega,by simp[pdDs,h4,k4]⟩
theorem res_reads(I:Inv cx J H h):∀ (n:Nat) {v:AV} {val:Value} {d:D},Rep J h v val→res H n v=some d→∃ pd as,Reads h val pd as∧pd.canLay0=true∧pd.depth≤n∧pdD pd=d
 | 0,_,_,_,_,e=>by simp[res]at e
 | n+1,v,val,d,r,e=>by
  cases v with
  | none=>simp[res]at e;subst e;simp only[Rep]at r;subst r;exact⟨_,_,.none,rfl,by simp[PyData.depth],rfl⟩
  | bool b=>simp[res]at e;subst e;simp only[Rep]at r;subst r;exact⟨_,_,.bool b,rfl,by simp[PyData.depth],rfl⟩
  | int i=>simp[res]at e;subst e;obtain⟨t,rfl⟩:=r;exact⟨_,_,.int i t,rfl,by simp[PyData.depth],rfl⟩
  | str x=>
   simp[res]at e;subst e;obtain⟨ok,t,rfl⟩:=r;refine⟨_,_,.str _ t,?_,by simp[PyData.depth],by simp[pdD]⟩
   simp only[PyData.canLay0,PyData.strOk,Array.all_eq_true'];intro c hc;simp at hc;simpa using ok c hc
  | tup vs=>
   simp only[res,Option.map_eq_some_iff]at e;obtain⟨ds,e,rfl⟩:=e;obtain⟨a,its,k,rfl,ho,rl,_⟩:=r;obtain⟨pds,as,h1,h2,h3,h4⟩:=res_readsL (res_reads I n) rl e;exact⟨_,_,reads_tuple_at ho rfl rfl h1,by simpa[PyData.canLay0] using h2,by simp only[PyData.depth];omega,by simp[pdD,h4]⟩
  | ref k=>
   obtain⟨a,ha,rfl⟩:=r;simp only[res]at e;split at e
   ·rename_i vs hk
    simp only[Option.map_eq_some_iff]at e;obtain⟨ds,e,rfl⟩:=e;obtain⟨its,n',ho,rl,_⟩:=I.rep.obj _ _ _ hk ha;obtain⟨pds,as,h1,h2,h3,h4⟩:=res_readsL (res_reads I n) rl e;exact⟨_,_,reads_list_at ho rfl rfl h1,by simpa[PyData.canLay0] using h2,by simp only[PyData.depth];omega,by simp[pdD,h4]⟩
   ·cases e
end
section
variable {cx:Cx} {A:Around} {E:Value→Shared→Prop} {s:Shared} {J:Jm} {H:Hp}
theorem s_truthy{v:AV}{val:Value}{b:Bool}{Q:Bool→Shared→Prop}(I:Inv cx J H s.heap)(r:Rep J s.heap v val)(h:truthy H v=some b)(hQ:∀ tk,Q b { s with toks:=tk }):
  wpAny cx.M A (PySem.truthy val) Q E s:=by
 cases v with
 | none=>simp only[truthy,Option.some.injEq]at h;subst h;simp only[Rep]at r;subst r;with_reducible refine truthy_none ?_;exact hQ s.toks
 | bool c=>simp only[truthy,Option.some.injEq]at h;subst h;simp only[Rep]at r;subst r;with_reducible refine wpAny_truthy_bool ?_;exact hQ s.toks
 | int i=>
  simp only[truthy,Option.some.injEq]at h;subst h;obtain⟨t,rfl⟩:=r;with_reducible refine PyProof.Rows.truthy_int ?_
  have:(i != 0)=decide (i≠0):=by by_cases q:i=0<;>simp[q]
  rw[this];exact hQ s.toks
 | str x=>simp[truthy]at h
 | tup vs=>simp[truthy]at h
 | ref k=>
  obtain⟨a,ha,rfl⟩:=r;simp only[truthy]at h;split at h
  ·rename_i vs hk
   simp only[Option.some.injEq]at h;subst h;obtain⟨its,n',ho,rl,hz⟩:=I.rep.obj _ _ _ hk ha;have hl:=rl.length;simp only[Array.length_toList]at hl;have L:s.heap.IsList a its:=⟨_,ho,rfl,_,rfl⟩;with_reducible refine wpAny_truthy_list L (by omega) ?_
   have:its.isEmpty=vs.isEmpty:=by
    rw[Bool.eq_iff_iff];simp only[Array.isEmpty_iff_size_eq_zero,List.isEmpty_iff_length_eq_zero];omega
   rw[this];exact hQ _
  ·cases h
theorem s_eq{a b:AV}{va vb:Value}{r:Bool}{Q:Value→Shared→Prop}(hu:A.units+64<cLine)(I:Inv cx J H s.heap)(ra:Rep J s.heap a va)(rb:Rep J s.heap b vb)(h:eqV H a b=some r)(hQ:Q (.bool r) s):
  wpAny cx.M A (compareOp .Eq va vb) Q E s:=by
 unfold eqV at h;split at h
 ·rename_i x y hx hy
  simp only[Option.some.injEq]at h;subst h;obtain⟨pa,as,a1,a2,a3,a4⟩:=res_reads I _ ra hx;obtain⟨pb,bs,b1,b2,b3,b4⟩:=res_reads I _ rb hy;with_reducible refine SeqAt.compareEq_reads a1 b1 a2 b2 ?_ ?_
  ·have:eqFuel=24:=rfl
   omega
  ·rw[eqv_pd _ _ a2 b2,a4,b4];exact hQ
 ·cases h
theorem s_ne{a b:AV}{va vb:Value}{r:Bool}{Q:Value→Shared→Prop}(hu:A.units+64<cLine)(I:Inv cx J H s.heap)(ra:Rep J s.heap a va)(rb:Rep J s.heap b vb)(h:eqV H a b=some r)(hQ:Q (.bool (!r)) s):
  wpAny cx.M A (compareOp .NotEq va vb) Q E s:=by
 unfold eqV at h;split at h
 ·rename_i x y hx hy
  simp only[Option.some.injEq]at h;subst h;obtain⟨pa,as,a1,a2,a3,a4⟩:=res_reads I _ ra hx;obtain⟨pb,bs,b1,b2,b3,b4⟩:=res_reads I _ rb hy;with_reducible refine SeqAt.compareNe_reads a1 b1 a2 b2 ?_ ?_
  ·have:eqFuel=24:=rfl
   omega
  ·rw[eqv_pd _ _ a2 b2,a4,b4];exact hQ
 ·cases h
theorem any_pd:∀ (ps:List PyData) (d:PyData),PyData.canLayAll0 ps=true→d.canLay0=true→(ps.any fun y=>PyData.eqv y d)=decide (pdD d∈pdDs ps)
 | [],_,_,_=>by simp[pdDs]
 | p::ps,d,h,hd=>by
  simp only[PyData.canLayAll0,Bool.and_eq_true]at h;rw[List.any_cons,any_pd ps d h.2 hd,eqv_pd p d h.1 hd,pdDs];by_cases q:pdD p=pdD d
  ·simp[q]
  ·have q':¬ pdD d=pdD p:=fun e=>q e.symm
   simp[q,q']
theorem s_inList{x:AV}{vx:Value}{a:Addr}{k:Nat}{vs:List AV}{r:Bool}{Q:Value→Shared→Prop}(hu:A.units+64<cLine)(I:Inv cx J H s.heap)(rx:Rep J s.heap x vx)(ha:J[k]? =some a)(hk:H[k]? =some (.list vs))
  (h:anyEq H x vs=some r) (hQ:Q (.bool r) s):wpAny cx.M A (compareOp .In vx (.ref a)) Q E s:=by
 unfold anyEq at h;split at h
 ·rename_i d ds hd hds
  simp only[Option.some.injEq]at h;subst h;obtain⟨its,n',ho,rl,_⟩:=I.rep.obj _ _ _ hk ha;obtain⟨pd,as,a1,a2,a3,a4⟩:=res_reads I _ rx hd;obtain⟨pds,bs,b1,b2,b3,b4⟩:=res_readsL (res_reads I _) rl hds;with_reducible refine SeqAt.in_list_reads (reads_list_at ho rfl rfl b1) a1 b2 a2 ?_ ?_
  ·have:eqFuel=24:=rfl
   omega
  ·rw[any_pd _ _ b2 a2,a4,b4];exact hQ
 ·cases h
theorem s_notInList{x:AV}{vx:Value}{a:Addr}{k:Nat}{vs:List AV}{r:Bool}{Q:Value→Shared→Prop}(hu:A.units+64<cLine)(I:Inv cx J H s.heap)(rx:Rep J s.heap x vx)(ha:J[k]? =some a)(hk:H[k]? =some (.list vs))
  (h:anyEq H x vs=some r) (hQ:Q (.bool (!r)) s):wpAny cx.M A (compareOp .NotIn vx (.ref a)) Q E s:=by
 unfold anyEq at h;split at h
 ·rename_i d ds hd hds
  simp only[Option.some.injEq]at h;subst h;obtain⟨its,n',ho,rl,_⟩:=I.rep.obj _ _ _ hk ha;obtain⟨pd,as,a1,a2,a3,a4⟩:=res_reads I _ rx hd;obtain⟨pds,bs,b1,b2,b3,b4⟩:=res_readsL (res_reads I _) rl hds;with_reducible refine SeqAt.notIn_list_reads (reads_list_at ho rfl rfl b1) a1 b2 a2 ?_ ?_
  ·have:eqFuel=24:=rfl
   omega
  ·rw[any_pd _ _ b2 a2,a4,b4];exact hQ
 ·cases h
theorem s_index{x:AV}{vx:Value}{a:Addr}{k j:Nat}{vs:List AV}(hu:A.units+64<cLine)(I:Inv cx J H s.heap)(rx:Rep J s.heap x vx)(ha:J[k]? =some a)(hk:H[k]? =some (.list vs))
  (h:idxEq H x vs=some j):wpAny cx.M A (call (.builtin "list.index") [.ref a,vx]) (EPost cx J s (.int j) H) E s:=by
 unfold idxEq at h;split at h
 ·rename_i d ds hd hds
  obtain⟨its,n',ho,rl,hz⟩:=I.rep.obj _ _ _ hk ha;obtain⟨pd,as,a1,a2,a3,a4⟩:=res_reads I _ rx hd;obtain⟨pds,bs,b1,b2,b3,b4⟩:=res_readsL (res_reads I _) rl hds;have T:s.TypeIs (.ref a) "list" :=⟨_,ho,rfl⟩;have hmap:=SeqAt.readsAll_map _ _ _ b2 b1;have hds':ds=its.toList.map (fun v=>pdD (SeqAt.readOf s.heap v)):=by
   rw[← b4,← hmap];clear hmap b1 b2 b3 b4 hds rl;generalize its.toList=l;induction l with
   | nil=>rfl
   | cons y ys ih=>simp only[List.map_cons,pdDs,ih]
  obtain⟨hj,e1,e2⟩:=List.findIdx?_eq_some_iff_getElem.mp h;have hj':j<its.size:=by rw[hds']at hj;simpa using hj
  have hlen:pds.length=its.size:=by rw[← hmap];simp
  have hcan:∀ m (hm:m<its.size),(SeqAt.readOf s.heap its[m]).canLay0=true:=by
   intro m hm;obtain⟨d',cs,ry,hcy,_⟩:=SeqAt.readsAll_mem _ _ _ b2 b1 its[m] (by simp)
   rw[SeqAt.readOf_eq hcy ry];exact hcy
  have W:=SeqAt.list_indexAt a its n' none #[] vx (fun y=>PyData.eqv (SeqAt.readOf s.heap y) pd) j hj' (by omega)
   (by
    rw[eqv_pd _ _ (hcan j hj') a2,a4];have:=e1;subst hds';simpa using this)
   (fun m hm hmj=>by
    rw[eqv_pd _ _ (hcan m hm) a2,a4];have:=e2 m hmj;subst hds';simpa using this)
  with_reducible refine call_meets PySem.F.slot_list_index T PySem.F.entry_list_index (PySem.F.args_list_index_2 _ _) W ?_
  refine⟨ho,SeqAt.items_eqAt b1 a1 b2 a2 (by have:eqFuel=24:=rfl;omega),?_⟩
  show EPost cx J s (.int j) H (.int (j:Int) s.toks) { s with toks:=s.toks+1 }
  exact EPost.pure I ⟨_,rfl⟩
 ·cases h
end
end Mine
end
section
open PySem PySem.W PyProof.Rows
namespace Mine
def atomD:AV→D
 | .int i=> .int i
 | .str s=> .str s
 | _=> .none
def keyD:AV→D
 | .int i=> .int i
 | .str s=> .str s
 | .tup vs=> .tup (vs.map atomD)
 | _=> .none
theorem atomD_inj{a b:AV}(ha:isAtom a=true)(hb:isAtom b=true)(e:atomD a=atomD b):a=b:=by
 cases a<;>cases b<;>simp_all [isAtom,atomD]
theorem atomsD_inj:∀ {a b:List AV},a.all isAtom=true→b.all isAtom=true→a.map atomD=b.map atomD→a=b
 | [],[],_,_,_=>rfl
 | [],_::_,_,_,e=>by simp at e
 | _::_,[],_,_,e=>by simp at e
 | x::xs,y::ys,ha,hb,e=>by
  simp only[List.all_cons,Bool.and_eq_true]at ha hb;simp only[List.map_cons,List.cons.injEq]at e;rw[atomD_inj ha.1 hb.1 e.1,atomsD_inj ha.2 hb.2 e.2]
theorem keyD_inj{a b:AV}(ha:isKey a=true)(hb:isKey b=true)(e:keyD a=keyD b):a=b:=by
 cases a<;>cases b<;>simp_all [isKey,keyD]
 ·rename_i x y
  exact atomsD_inj (by simpa using ha) (by simpa using hb) e
theorem res_atom{H:Hp}{n:Nat}{a:AV}(h:isAtom a=true):res H (n+1) a=some (atomD a):=by
 cases a<;>simp_all [isAtom,atomD,res]
theorem res_atoms{H:Hp}{n:Nat}:∀ {vs:List AV},vs.all isAtom=true→vs.mapM (res H (n+1))=some (vs.map atomD)
 | [],_=>rfl
 | v::vs,h=>by
  simp only[List.all_cons,Bool.and_eq_true]at h;rw[List.mapM_cons,res_atom h.1,res_atoms h.2];rfl
theorem res_key{H:Hp}{k:AV}(h:isKey k=true):res H 24 k=some (keyD k):=by
 cases k with
 | int i=>rfl
 | str s=>rfl
 | tup vs=>simp only[isKey]at h;show (vs.mapM (res H 23)).map D.tup=_;rw[res_atoms h];rfl
 | _=>simp[isKey]at h
section
variable {cx:Cx} {A:Around} {E:Value→Shared→Prop} {s:Shared} {J:Jm} {H:Hp}
theorem key_eqBool{a b:AV}{va vb:Value}{Q:Bool→Shared→Prop}(hu:A.units+64<cLine)(I:Inv cx J H s.heap)(ra:Rep J s.heap a va)(rb:Rep J s.heap b vb)(ha:isKey a=true)(hb:isKey b=true)
  (h:Q (decide (a=b)) s):wpAny cx.M A (eqBool va vb) Q E s:=by
 obtain⟨pa,as,a1,a2,a3,a4⟩:=res_reads I _ ra (res_key ha);obtain⟨pb,bs,b1,b2,b3,b4⟩:=res_reads I _ rb (res_key hb);have W:=SeqAt.eqBoolOverData cx.prog cx.w A E s va vb pa pb as bs Q a1 b1 a2 b2;refine W (by omega) ?_
 rw[eqv_pd _ _ a2 b2,a4,b4];have:decide (keyD a=keyD b)=decide (a=b):=by
  by_cases q:a=b
  ·subst q;simp
  ·have:¬ keyD a=keyD b:=fun e=>q (keyD_inj ha hb e)
   simp[q,this]
 rw[this];exact h
theorem Rep.atom_byValue{h:Heap}{a:AV}{v:Value}(r:Rep J h a v)(ha:isAtom a=true):carriedByValue v=true:=by
 cases a<;>simp[isAtom]at ha
 ·obtain⟨t,rfl⟩:=r;rfl
 ·obtain⟨_,t,rfl⟩:=r;rfl
theorem RepL.atoms_byValue{h:Heap}:∀ {vs:List AV} {vals:List Value},RepL J h vs vals→vs.all isAtom=true→∀ v∈vals,carriedByValue v=true
 | [],_,e,_,v,hv=>by subst e;cases hv
 | x::xs,_,⟨y,ys,e,r,rs⟩,ha,v,hv=>by
  subst e;simp only[List.all_cons,Bool.and_eq_true]at ha;rcases List.mem_cons.mp hv with rfl | hv
  ·exact r.atom_byValue ha.1
  ·exact rs.atoms_byValue ha.2 v hv
theorem key_quiet{a:AV}{v:Value}{Q:Bool→Shared→Prop}(r:Rep J s.heap a v)(ha:isKey a=true)(h:Q true s):wpAny cx.M A (eqIsQuiet 8 v) Q E s:=by
 cases a with
 | int i=>obtain ⟨t,rfl⟩:=r;rw[eqIsQuiet_byValue 8 rfl];exact wpAny_pure h
 | str i=>obtain ⟨_,t,rfl⟩:=r;rw[eqIsQuiet_byValue 8 rfl];exact wpAny_pure h
 | tup vs=>
  obtain⟨b,its,n,rfl,ho,rl,_⟩:=r;have hT:s.TypeIs (.ref b) "tuple" :=⟨_,ho,rfl⟩;have hall:∀ x∈its.toList,carriedByValue x=true:=rl.atoms_byValue (by simpa[isKey] using ha)
  unfold eqIsQuiet;have L:typeLookup (.type "tuple") (PySem.Str.ofString "__eq__")=pure (some (.builtin "tuple.__eq__")):=PySem.F.slot_tuple_eq.lookup;with_reducible refine wpAny_bind (wpAny_specialOf hT L ?_)
  show wpAny _ _ (isInstance (.ref b) (.type "tuple") >>= _) _ _ s
  with_reducible refine wpAny_bind (wpAny_isInstance hT isSubtype_tuple_tuple ?_)
  simp only[Bool.not_true,Bool.false_eq_true,if_false];with_reducible refine wpAny_bind (wpAny_seqItems ho rfl ?_)
  refine wpAny_bind ?_
  show wpAny _ _ (forIn its _ _) _ _ s
  rw[← Array.forIn_toList];refine wpAny_forIn_list _ (fun rest r s'=>r.1=none∧s'=s∧∀ v∈rest,carriedByValue v=true) _ ?_ ?_ _ _ ⟨rfl,rfl,hall⟩
  ·rintro v rest r s' ⟨hr,rfl,hall⟩
   rw[eqIsQuiet_byValue _ (hall v List.mem_cons_self)];refine wpAny_bind (wpAny_pure ?_)
   simp only[Bool.not_true,Bool.false_eq_true,if_false];exact wpAny_pure ⟨rfl,rfl,fun v hv=>hall v (List.mem_cons_of_mem _ hv)⟩
  ·rintro r s' ⟨hr,rfl,_⟩
   obtain⟨r1,r2⟩:=r;simp only at hr;subst hr;exact wpAny_pure h
 | _=>simp[isKey]at ha
theorem hash_atom{a:AV}{v:Value}{Q:Int→Shared→Prop}(r:Rep J s.heap a v)(ha:isAtom a=true)(h:Q (atomHash cx.w a) { s with toks:=s.toks+1 }):wpAny cx.M A (pyHash v) Q E s:=by
 cases a with
 | int i=>
  obtain⟨t,rfl⟩:=r;with_reducible refine wpAny_pyHash_int ?_
  exact h
 | str i=>
  obtain⟨_,t,rfl⟩:=r;with_reducible refine wpAny_pyHash_str ?_
  exact h
 | _=>simp[isAtom]at ha
theorem hash_tuple{vs:List AV}{a:Addr}{its:Array Value}{n:Nat}{Q:Int→Shared→Prop}(hu:A.units<cLine)(ho:s.heap.get? a=some (tupObj its n))(rl:RepL J s.heap vs its.toList)(ha:vs.all isAtom=true)
  (h:∀ tk,Q (keyHash cx.w (.tup vs)) { s with toks:=tk }):wpAny cx.M A (pyHash (.ref a)) Q E s:=by
 have hT:s.TypeIs (.ref a) "tuple" :=⟨_,ho,rfl⟩;unfold pyHash;first | unfold pyHashByItsType | skip
 first | with_reducible refine wpAny_bind (wpAny_cRoomFor_or (.inr hu) ?_) | skip
 have L:typeLookup (.type "tuple") (PySem.Str.ofString "__hash__")=pure (some (.builtin "tuple.__hash__")):=PySem.F.slot_tuple_hash.lookup;with_reducible refine wpAny_bind (wpAny_specialOf hT L ?_)
 show wpAny _ _ (if (some (Value.builtin "tuple.__hash__") == some Value.none)=true then _ else _) Q E s
 rw[if_neg (by rw[beq_builtin_none];exact Bool.false_ne_true)]
 with_reducible refine wpAny_bind (wpAny_specialOf hT L ?_)
 show wpAny _ _ (callSpecialIfBoundUnlessNone? (.ref a) "__hash__" _ >>= _) Q E s
 refine wpAny_bind (wpAny_callSpecialIfBoundUnlessNone?_slot hT PySem.F.slot_tuple_hash (wpAny_call_entry PySem.F.slot_tuple_hash hT PySem.F.entry_tuple_hash ?_ (PySem.F.args_tuple_hash_1 _)))
 show wpAny _ _ (Builtin.Tuple.tupleItemsOf (.ref a) >>= _) _ _ s
 refine wpAny_bind (wpAny_tupleItemsOf ho rfl ?_)
 refine wpAny_bind ?_
 rw[← Array.forIn_toList];refine wpAny_forIn_list _
  (fun rest (b:Array Int) s'=>∃ done left,vs=done++left∧RepL J s.heap left rest∧left.all isAtom=true∧b.toList=done.map (atomHash cx.w)∧∃ tk,s'={ s with toks:=tk })
  _ ?_ ?_ _ _ ⟨[],vs,rfl,rl,ha,rfl,s.toks,rfl⟩
 ·rintro x rest b s' ⟨done,left,rfl,hl,hat,hb,tk,rfl⟩
  cases left with
  | nil=>simp[RepL]at hl
  | cons k ks=>
   obtain⟨y,ys,e,r,rs⟩:=hl;injection e with e1 e2
   subst e1 e2;simp only[List.all_cons,Bool.and_eq_true]at hat;refine wpAny_bind (hash_atom (s:={ s with toks:=tk }) r hat.1 ?_)
   first
    | exact wpAny_pure ⟨done++[k],ks,by simp,rs,hat.2,by simp[hb],_,rfl⟩
    | exact wpAny_pure (wpAny_pure ⟨done++[k],ks,by simp,rs,hat.2,by simp[hb],_,rfl⟩)
 ·rintro b s' ⟨done,left,rfl,hl,hat,hb,tk,rfl⟩
  cases left with
  | cons k ks=>obtain ⟨y,ys,e,r,rs⟩:=hl;cases e
  | nil=>
   rw[List.append_nil]at h;show wpAny _ _ (retInt (Builtin.Tuple.tupleHashOf b.toList)) _ _ _
   rw[hb];refine wpAny_ret_mkInt ?_
   show wpAny _ _ (if (decide (-(2:Int) ^ 63≤Builtin.Tuple.tupleHashOf (done.map (atomHash cx.w)))&&decide (Builtin.Tuple.tupleHashOf (done.map (atomHash cx.w))<2 ^ 63))=true then _ else _) Q E _
   simp only[keyHash]at h;unfold reduceHash at h;by_cases hr:(decide (-(2:Int) ^ 63≤Builtin.Tuple.tupleHashOf (done.map (atomHash cx.w)))&&decide (Builtin.Tuple.tupleHashOf (done.map (atomHash cx.w))<2 ^ 63))=true
   ·rw[if_pos hr]
    rw[if_pos hr]at h;exact wpAny_pure (h _)
   ·rw[if_neg hr]
    rw[if_neg hr]at h;exact wpAny_bind (wpAny_rule (wpAny_pure (h _)))
theorem key_hash{k:AV}{v:Value}{Q:Int→Shared→Prop}(hu:A.units<cLine)(r:Rep J s.heap k v)(hk:isKey k=true)(h:∀ tk,Q (keyHash cx.w k) { s with toks:=tk }):wpAny cx.M A (pyHash v) Q E s:=by
 cases k with
 | int i=>exact hash_atom (a:= .int i) r rfl (h _)
 | str i=>exact hash_atom (a:= .str i) r rfl (h _)
 | tup vs=>
  obtain⟨a,its,n,rfl,ho,rl,_⟩:=r;exact hash_tuple hu ho rl (by simpa[isKey] using hk) h
 | _=>simp[isKey]at hk
theorem DRep.get{h:Heap}:∀ {es:List (AV × AV)} {ds:List DictEntry},DRep cx.w J h es ds→∀ j:Nat,(∀ k v,es[j]? =some (k,v)→∃ e,ds[j]? =some e∧isKey k=true∧Rep J h k e.key∧Rep J h v e.val∧e.hash=keyHash cx.w k)
 | _,_,.nil,j,k,v,e=>by simp at e
 | _,_,.cons hk rk rv hh r,0,k,v,e=>by
  simp only[List.getElem?_cons_zero,Option.some.injEq,Prod.mk.injEq]at e;obtain⟨rfl,rfl⟩:=e;exact⟨_,rfl,hk,rk,rv,hh⟩
 | _,_,.cons hk rk rv hh r,j+1,k,v,e=>by
  simp only[List.getElem?_cons_succ]at e ⊢;exact r.get j k v e
theorem DRep.length{h:Heap}:∀ {es:List (AV × AV)} {ds:List DictEntry},DRep cx.w J h es ds→ds.length=es.length
 | _,_,.nil=>rfl
 | _,_,.cons _ _ _ _ r=>by rw[List.length_cons,List.length_cons,r.length]
theorem Rep.fun{h:Heap}(I:Inv cx J H h){a b:AV}{v:Value}(ha:isKey a=true)(hb:isKey b=true)(ra:Rep J h a v)(rb:Rep J h b v):a=b:=by
 obtain⟨pa,as,a1,a2,a3,a4⟩:=res_reads I _ ra (res_key ha);obtain⟨pb,bs,b1,b2,b3,b4⟩:=res_reads I _ rb (res_key hb);have:=SeqAt.Reads.unique _ _ _ _ _ a2 a1 b1;subst this;exact keyD_inj ha hb (a4.symm.trans b4)
end
end Mine
end
section
open PySem PySem.W PyProof.Rows
namespace Mine
section
variable {cx:Cx} {A:Around} {E:Value→Shared→Prop} {s:Shared} {J:Jm} {H:Hp}
theorem idx_unique{xs:List (AV × AV)}(hn:(xs.map (·.1)).Nodup){i j:Nat}{k p q:AV}(hi:xs[i]? =some (k,p))(hj:xs[j]? =some (k,q)):i=j:=by
 have hi':(xs.map (·.1))[i]? =some k:=by rw[List.getElem?_map,hi];rfl
 have hj':(xs.map (·.1))[j]? =some k:=by rw[List.getElem?_map,hj];rfl
 exact (List.getElem?_inj (List.getElem?_eq_some_iff.mp hi').1 hn).mp (hi'.trans hj'.symm)
structure Ents(cx:Cx)(J:Jm)(H:Hp)(s:Shared)(xs:List (AV × AV))(es:Array DictEntry)(k:AV)(key:Value):Prop where
 size:es.size=xs.length
 at_:∀ j,j<es.size→∃ k' v' e,xs[j]? =some (k',v')∧es[j]? =some e∧isKey k'=true∧Rep J s.heap k' e.key∧e.hash=keyHash cx.w k'
 nd:(xs.map (·.1)).Nodup
 ok:isKey k=true
 rep:Rep J s.heap k key
theorem Ents.of{xs:List (AV × AV)}{ds:List DictEntry}{k:AV}{key:Value}(D:DRep cx.w J s.heap xs ds)(nd:(xs.map (·.1)).Nodup)(hk:isKey k=true)(rk:Rep J s.heap k key):Ents cx J H s xs ds.toArray k key where
 size:=by simp[D.length]
 at_:=fun j hj=>by
  have hj':j<xs.length:=by simpa[D.length] using hj
  obtain⟨e,h1,h2,h3,_,h5⟩:=D.get j xs[j].1 xs[j].2 (List.getElem?_eq_getElem hj');exact⟨xs[j].1,xs[j].2,e,List.getElem?_eq_getElem hj',by simpa using h1,h2,h3,h5⟩
 nd:=nd
 ok:=hk
 rep:=rk
theorem Ents.hashOf{xs es k key}(X:Ents cx J H s xs es k key){j:Nat}{p:AV}(h:xs[j]? =some (k,p)):((es[j]?.map (·.hash)) == some (keyHash cx.w k))=true:=by
 have hj:j<es.size:=by rw[X.size];exact (List.getElem?_eq_some_iff.mp h).1
 obtain⟨k',v',e,h1,h2,_,_,h5⟩:=X.at_ j hj;rw[h]at h1;injection h1 with h1;injection h1 with h1 _;subst h1
 rw[h2];simp[h5]
theorem s_walkPlain{a:Addr}{o:Obj}{ep:Nat}{xs:List (AV × AV)}{es:Array DictEntry}{k:AV}{key:Value}{Q:Option Nat→Shared→Prop}(hu:A.units+64<cLine)(I:Inv cx J H s.heap)
  (ho:s.heap.get? a=some o) (hd:o.data= .dict es ep) (X:Ents cx J H s xs es k key)
  (hnone:(∀ (j:Nat) (p:AV),xs[j]? ≠some (k,p))→Q none s) (hsome:∀ (j:Nat) (p:AV),xs[j]? =some (k,p)→Q (some j) s):
  wpAny cx.M A (dictWalkPlain a key (keyHash cx.w k) es (placesWithHash es.size (fun i=>es[i]?.map (·.hash)) (keyHash cx.w k))) Q E s:=by
 unfold dictWalkPlain;refine wpAny_bind ?_
 refine wpAny_forIn_list _
  (fun rest b s'=>s'=s∧b=(none,())∧∃ i,rest=(List.range' i (es.size - i)).filter (fun i=>(es[i]?.map (·.hash)) == some (keyHash cx.w k))∧i≤es.size∧
   ∀ j p,j<i→xs[j]? ≠some (k,p)) _ ?_ ?_ _ _
  ⟨rfl,rfl,0,by rw[placesWithHash,List.range_eq_range',Nat.sub_zero],Nat.zero_le _,fun _ _ h=>absurd h (Nat.not_lt_zero _)⟩
 ·rintro x rest b s' ⟨rfl,rfl,i,hr,hi,hno⟩
  obtain⟨hix,hxn,hpx,hskip,hrest⟩:=filter_range'_cons _ _ _ _ _ hr.symm;have hlt:x<es.size:=by omega
  have hrest':rest=(List.range' (x+1) (es.size - (x+1))).filter (fun i=>(es[i]?.map (·.hash)) == some (keyHash cx.w k)):=by rw[hrest];congr 2;omega
  obtain⟨k',v',e,hkv,hex,hk',re,hh'⟩:=X.at_ x hlt;have hnox:∀ j p,j<x→xs[j]? ≠some (k,p):=fun j p hjx hj=>by
   rcases Nat.lt_or_ge j i with h | h
   ·exact hno j p h hj
   ·have:=hskip j h hjx
    rw[X.hashOf hj]at this;exact absurd this (by decide)
  have hnext:¬ k'=k→∀ j p,j<x+1→xs[j]? ≠some (k,p):=fun hne j p hjx hj=>by
   rcases Nat.lt_or_ge j x with h | h
   ·exact hnox j p h hj
   ·have hjx':j=x:=by omega
    subst hjx';rw[hkv]at hj;injection hj with hj;injection hj with hj
    exact hne hj
  rw[hex];dsimp only
  by_cases hh:(e.hash == keyHash cx.w k)=true
  ·rw[if_pos hh]
   refine wpAny_bind (wpAny_dictEpoch ho hd (wpAny_bind (key_eqBool hu I re X.rep hk' X.ok (wpAny_bind (wpAny_dictEpoch ho hd ?_)))))
   show wpAny _ _ (if (ep != ep)=true then _ else _) _ E _
   rw[if_neg (by simp)]
   by_cases hkk:k'=k
   ·rw[decide_eq_true hkk]
    subst hkk;exact wpAny_bind (wpAny_rule (wpAny_pure (wpAny_pure (hsome x _ hkv))))
   ·rw[decide_eq_false hkk]
    exact wpAny_bind (wpAny_rule (wpAny_pure ⟨rfl,rfl,x+1,hrest',hlt,hnext hkk⟩))
  ·rw[if_neg hh]
   refine wpAny_pure ⟨rfl,rfl,x+1,hrest',hlt,hnext ?_⟩
   intro hkk;rw[hh',hkk]at hh;simp at hh
 ·rintro b s' ⟨rfl,rfl,i,hr,hi,hno⟩
  have hall:∀ j,i≤j→j<es.size→((es[j]?.map (·.hash)) == some (keyHash cx.w k))=false:=by
   intro j h1 h2;have:=List.filter_eq_nil_iff.mp hr.symm j (List.mem_range'_1.mpr ⟨h1,by omega⟩)
   simpa using this
  refine wpAny_pure (hnone fun j p hj=> ?_)
  rcases Nat.lt_or_ge j i with h | h
  ·exact hno j p h hj
  ·have hjl:j<es.size:=by rw[X.size];exact (List.getElem?_eq_some_iff.mp hj).1
   have:=hall j h hjl;rw[X.hashOf hj]at this;cases this
theorem s_foundByValue{a:Addr}{o:Obj}{ep:Nat}{xs:List (AV × AV)}{es:Array DictEntry}{x:Nm}{t:Tok}{Q:Option Nat→Shared→Prop}(hu:A.units+64<cLine)(I:Inv cx J H s.heap)
  (ho:s.heap.get? a=some o) (hd:o.data= .dict es ep) (X:Ents cx J H s xs es (.str x) (.str ⟨x.toArray⟩ t)) (hstr:(es.all fun e=>isExactStrKey e.key)=true)
  (hnone:(∀ (j:Nat) (p:AV),xs[j]? ≠some (.str x,p))→Q none s) (hsome:∀ (j:Nat) (p:AV),xs[j]? =some (.str x,p)→Q (some j) s):
  wpAny cx.M A (foundByValue a (.str ⟨x.toArray⟩ t) es ⟨x.toArray⟩) Q E s:=by
 unfold foundByValue;cases hf:es.findIdx? (fun e=>e.key.isStr ⟨x.toArray⟩) with
 | none=>
  refine wpAny_pure (hnone fun j p hj=> ?_)
  have hjl:j<es.size:=by rw[X.size];exact (List.getElem?_eq_some_iff.mp hj).1
  obtain⟨k',v',e,h1,h2,h3,h4,h5⟩:=X.at_ j hjl;rw[hj]at h1;injection h1 with h1;injection h1 with h1 _;subst h1
  obtain⟨_,t',h4⟩:=h4;have:=Array.findIdx?_eq_none_iff.mp hf e (Array.mem_of_getElem? h2);rw[h4]at this;simp[Value.isStr]at this
 | some i=>
  obtain⟨hlt,hi,_⟩:=Array.findIdx?_eq_some_iff_getElem.mp hf;obtain⟨k',v',e,h1,h2,h3,h4,h5⟩:=X.at_ i hlt;have hee:es[i]=e:=by rw[Array.getElem?_eq_getElem hlt]at h2;exact Option.some.inj h2
  rw[hee]at hi;dsimp only
  rw[h2];dsimp only
  refine wpAny_bind (wpAny_dictEpoch ho hd (wpAny_bind (key_eqBool hu I h4 X.rep h3 X.ok (wpAny_bind (wpAny_dictEpoch ho hd ?_)))))
  show wpAny _ _ (if (ep != ep)=true then _ else _) _ E _
  have hkk:k'= .str x:=by
   cases k' with
   | str y=>
    obtain⟨_,t',h4⟩:=h4;rw[h4]at hi;simp[Value.isStr]at hi;rw[hi]
   | int y=>obtain ⟨t',h4⟩:=h4;rw[h4]at hi;simp[Value.isStr]at hi
   | tup y=>obtain ⟨a',its,n,h4,_⟩:=h4;rw[h4]at hi;simp[Value.isStr]at hi
   | _=>simp[isKey]at h3
  subst hkk;rw[if_neg (by simp),decide_eq_true rfl]
  exact wpAny_bind (wpAny_rule (wpAny_pure (hsome i _ h1)))
theorem s_tableMayTell{k:AV}{key:Value}{stored:List Value}{Q:Bool→Shared→Prop}(rk:Rep J s.heap k key)(hk:isKey k=true)
  (hst:∀ v∈stored,∃ k',isKey k'=true∧Rep J s.heap k' v) (h:Q false s):wpAny cx.M A (tableMayTell key stored) Q E s:=by
 unfold tableMayTell;split
 ·exact wpAny_pure h
 ·refine wpAny_bind (key_quiet rk hk ?_)
  simp only[Bool.not_true,Bool.false_eq_true,if_false];refine wpAny_bind ?_
  refine wpAny_forIn_list _ (fun rest r s'=>s'=s∧r=(none,())∧∀ v∈rest,∃ k',isKey k'=true∧Rep J s.heap k' v) _ ?_ ?_ _ _ ⟨rfl,rfl,hst⟩
  ·rintro x rest r s' ⟨rfl,rfl,hr⟩
   obtain⟨k',hk',hb⟩:=hr x List.mem_cons_self;refine wpAny_bind (key_quiet hb hk' ?_)
   simp only[Bool.not_true,Bool.false_eq_true,if_false];exact wpAny_pure ⟨rfl,rfl,fun v hv=>hr v (List.mem_cons_of_mem _ hv)⟩
  ·rintro r s' ⟨rfl,rfl,_⟩
   exact wpAny_pure h
theorem s_dictFind{a:Addr}{o:Obj}{ep:Nat}{xs:List (AV × AV)}{es:Array DictEntry}{k:AV}{key:Value}{Q:Option Nat→Shared→Prop}(hu:A.units+64<cLine)(I:Inv cx J H s.heap)
  (ho:s.heap.get? a=some o) (hd:o.data= .dict es ep) (X:Ents cx J H s xs es k key)
  (hnone:(∀ (j:Nat) (p:AV),xs[j]? ≠some (k,p))→Q none s) (hsome:∀ (j:Nat) (p:AV),xs[j]? =some (k,p)→Q (some j) s):
  wpAny cx.M A (dictFind a key (keyHash cx.w k)) Q E s:=by
 have hst:∀ v∈(placesWithHash es.size (fun i=>es[i]?.map (·.hash)) (keyHash cx.w k)).filterMap (fun i=>es[i]?.map (·.key)),∃ k',isKey k'=true∧Rep J s.heap k' v:=by
  intro v hv;obtain⟨i,_,hi⟩:=List.mem_filterMap.mp hv;cases hei:es[i]? with
  | none=>rw[hei]at hi;cases hi
  | some e=>
   rw[hei]at hi;obtain rfl:e.key=v:=by simpa using hi
   have hlt:i<es.size:=(Array.getElem?_eq_some_iff.mp hei).1;obtain⟨k',v',e',h1,h2,h3,h4,h5⟩:=X.at_ i hlt;rw[hei]at h2;injection h2 with h2;subst h2
   exact⟨k',h3,h4⟩
 have hany:∀ b,key= .ref b→¬ (es.any fun e=>e.key == Value.ref b&&e.hash != keyHash cx.w k)=true:=by
  intro b hb hc;rw[← Array.any_toList,List.any_eq_true]at hc;obtain⟨e,hin,hc⟩:=hc;simp only[Bool.and_eq_true,beq_iff_eq,bne_iff_ne,ne_eq]at hc;obtain⟨i,hi,rfl⟩:=List.getElem_of_mem hin;have hi':i<es.size:=by simpa using hi
  obtain⟨k',v',e',h1,h2,h3,h4,h5⟩:=X.at_ i hi';have hee:es.toList[i]=e':=by rw[Array.getElem?_eq_getElem hi']at h2;simpa using Option.some.inj h2
  rw[hee]at hc;have:k'=k:=Rep.fun I h3 X.ok h4 (by rw[hc.1,← hb];exact X.rep)
  subst this;exact hc.2 h5
 unfold dictFind;try with_reducible refine wpAny_holding ?_
 refine wpAny_bind (wpAny_dictEntries ho hd ?_)
 dsimp only
 by_cases hall:((key::(placesWithHash es.size (fun i=>es[i]?.map (·.hash)) (keyHash cx.w k)).filterMap (fun i=>es[i]?.map (·.key))).all carriedByValue)=true
 ·rw[if_pos hall]
  have old:=s_walkPlain (Q:=Q) (E:=E) hu I ho hd X hnone hsome;split
  next x t=>
   split
   next hstrs=>
    have hX:=X;obtain⟨_,_,_,hok,hrep⟩:=hX;cases k with
    | str y=>
     obtain⟨_,t',hrep⟩:=hrep;injection hrep with h1 h2
     subst h1 h2;exact s_foundByValue hu I ho hd X hstrs hnone hsome
    | int y=>obtain ⟨t',hrep⟩:=hrep;cases hrep
    | tup y=>obtain ⟨a',its,n,hrep,_⟩:=hrep;cases hrep
    | _=>simp[isKey]at hok
   next=>exact old
  next=>exact old
 ·rw[if_neg hall]
  have main:wpAny cx.M A (do
    let tells ← if ((placesWithHash es.size (fun i=>es[i]?.map (·.hash)) (keyHash cx.w k)).filterMap (fun i=>es[i]?.map (·.key))) == [key] then pure false else tableMayTell key ((placesWithHash es.size (fun i=>es[i]?.map (·.hash)) (keyHash cx.w k)).filterMap (fun i=>es[i]?.map (·.key)))
    if tells&&((placesWithHash es.size (fun i=>es[i]?.map (·.hash)) (keyHash cx.w k)).filterMap (fun i=>es[i]?.map (·.key))).length≥2 then unsupported "dict.find:order-among-keys-of-one-hash"
    let mut hit:Option Nat:=none
    for i in placesWithHash es.size (fun i=>es[i]?.map (·.hash)) (keyHash cx.w k) do
     if let some e:=es[i]? then
      if e.hash == keyHash cx.w k then
       let before ← dictEpoch a (keyPart key)
       let same ← eqBool e.key key
       if (← dictEpoch a (keyPart key)) != before then unsupported "dict.changed-during-lookup"
       if same then
        if hit.isSome then unsupported "dict.find:order-among-keys-of-one-hash"
        PySem.rule "dict.find.hit"
        if ((placesWithHash es.size (fun i=>es[i]?.map (·.hash)) (keyHash cx.w k)).filterMap (fun i=>es[i]?.map (·.key))).length<2 then return some i
        hit:=some i
       else
        PySem.rule "dict.find.same-hash-other-key"
        if tells&& !(0≤keyHash cx.w k&&keyHash cx.w k<32) then unsupported "dict.find:asked-again-or-not-hangs-on-the-table"
    return hit) Q E s:=by
   dsimp only
   by_cases hone:(((placesWithHash es.size (fun i=>es[i]?.map (·.hash)) (keyHash cx.w k)).filterMap (fun i=>es[i]?.map (·.key))) == [key])=true<;>
   (first | rw[if_pos hone] | rw[if_neg hone])<;>(first | refine wpAny_bind (wpAny_pure ?_) | refine wpAny_bind (s_tableMayTell X.rep X.ok hst ?_))<;>(
    rw[if_neg (by simp)]
    refine wpAny_bind ?_
    refine wpAny_forIn_list _
     (fun rest b s'=>s'=s∧∃ i hit,b=(none,hit)∧rest=(List.range' i (es.size - i)).filter (fun i=>(es[i]?.map (·.hash)) == some (keyHash cx.w k))∧i≤es.size∧
      ((hit=none∧∀ j p,j<i→xs[j]? ≠some (k,p))∨∃ j p,hit=some j∧j<i∧xs[j]? =some (k,p))) _ ?_ ?_ _ _
     ⟨rfl,0,none,rfl,by rw[placesWithHash,List.range_eq_range',Nat.sub_zero],Nat.zero_le _,.inl ⟨rfl,fun _ _ h=>absurd h (Nat.not_lt_zero _)⟩⟩
    ·rintro x rest b s' ⟨rfl,i,hit,rfl,hr,hi,hH⟩
     obtain⟨hix,hxn,hpx,hskip,hrest⟩:=filter_range'_cons _ _ _ _ _ hr.symm;have hlt:x<es.size:=by omega
     have hrest':rest=(List.range' (x+1) (es.size - (x+1))).filter (fun i=>(es[i]?.map (·.hash)) == some (keyHash cx.w k)):=by rw[hrest];congr 2;omega
     obtain⟨k',v',e,hkv,hex,hk',re,hh'⟩:=X.at_ x hlt;have hHx:(hit=none∧∀ j p,j<x→xs[j]? ≠some (k,p))∨∃ j p,hit=some j∧j<x∧xs[j]? =some (k,p):=by
      rcases hH with⟨h0,hno⟩ | ⟨j,p,h1,hji,hj⟩
      ·refine .inl ⟨h0,fun j p hjx hj=> ?_⟩
       rcases Nat.lt_or_ge j i with h | h
       ·exact hno j p h hj
       ·have:=hskip j h hjx
        rw[X.hashOf hj]at this;exact absurd this (by decide)
      ·exact .inr ⟨j,p,h1,by omega,hj⟩
     have hstay:¬ k'=k→((hit=none∧∀ j p,j<x+1→xs[j]? ≠some (k,p))∨∃ j p,hit=some j∧j<x+1∧xs[j]? =some (k,p)):=by
      intro hne;rcases hHx with⟨h0,hno⟩ | ⟨j,p,h1,hjx,hj⟩
      ·refine .inl ⟨h0,fun j p hjx hj=> ?_⟩
       rcases Nat.lt_or_ge j x with h | h
       ·exact hno j p h hj
       ·have hjx':j=x:=by omega
        subst hjx';rw[hkv]at hj;injection hj with hj
        injection hj with hj
        exact hne hj
      ·exact .inr ⟨j,p,h1,by omega,hj⟩
     rw[hex];dsimp only
     by_cases hh:(e.hash == keyHash cx.w k)=true
     ·rw[if_pos hh]
      refine wpAny_bind (wpAny_dictEpoch ho hd (wpAny_bind (key_eqBool hu I re X.rep hk' X.ok (wpAny_bind (wpAny_dictEpoch ho hd ?_)))))
      show wpAny _ _ (if (ep != ep)=true then _ else _) _ E _
      rw[if_neg (by simp)]
      by_cases hkk:k'=k
      ·rw[decide_eq_true hkk]
       subst hkk;rcases hHx with⟨rfl,_⟩ | ⟨j,p,_,hjx,hj⟩
       ·first | rw[if_pos rfl] | skip
        simp only[Option.isSome_none,Bool.false_eq_true,if_false];first | refine wpAny_bind (wpAny_pure ?_) | skip
        refine wpAny_bind (wpAny_rule ?_)
        split
        ·exact wpAny_pure (wpAny_pure (hsome x _ hkv))
        ·exact wpAny_pure ⟨rfl,x+1,some x,rfl,hrest',hlt,.inr ⟨x,_,rfl,Nat.lt_succ_self x,hkv⟩⟩
       ·exact absurd (idx_unique X.nd hj hkv) (by omega)
      ·rw[decide_eq_false hkk]
       simp only[Bool.false_eq_true,if_false];refine wpAny_bind (wpAny_rule ?_)
       first | rw[if_neg (by simp)] | skip
       first
        | exact wpAny_pure ⟨rfl,x+1,hit,rfl,hrest',hlt,hstay hkk⟩
        | exact wpAny_bind (wpAny_pure (wpAny_pure ⟨rfl,x+1,hit,rfl,hrest',hlt,hstay hkk⟩))
     ·rw[if_neg hh]
      refine wpAny_pure ⟨rfl,x+1,hit,rfl,hrest',hlt,hstay ?_⟩
      intro hkk;rw[hh',hkk]at hh;simp at hh
    ·rintro b s' ⟨rfl,i,hit,rfl,hr,hi,hH⟩
     have hall:∀ j,i≤j→j<es.size→((es[j]?.map (·.hash)) == some (keyHash cx.w k))=false:=by
      intro j h1 h2;have:=List.filter_eq_nil_iff.mp hr.symm j (List.mem_range'_1.mpr ⟨h1,by omega⟩)
      simpa using this
     rcases hH with⟨rfl,hno⟩ | ⟨j,p,rfl,_,hj⟩
     ·refine wpAny_pure (hnone fun j p hj=> ?_)
      rcases Nat.lt_or_ge j i with h | h
      ·exact hno j p h hj
      ·have hjl:j<es.size:=by rw[X.size];exact (List.getElem?_eq_some_iff.mp hj).1
       have:=hall j h hjl;rw[X.hashOf hj]at this;cases this
     ·exact wpAny_pure (hsome j p hj))
  have hX:=X;obtain⟨_,_,_,hok,hrep⟩:=hX;cases k with
  | str y=>
   obtain⟨_,t',rfl⟩:=hrep;by_cases hstrs:(es.all fun e=>isExactStrKey e.key)=true
   ·show wpAny _ _ (if (es.all fun e=>isExactStrKey e.key)=true then _ else _) Q E s
    rw[if_pos hstrs];exact s_foundByValue hu I ho hd X hstrs hnone hsome
   ·show wpAny _ _ (if (es.all fun e=>isExactStrKey e.key)=true then _ else _) Q E s
    rw[if_neg hstrs];exact main
  | int y=>
   obtain⟨t',rfl⟩:=hrep;exact main
  | tup y=>
   obtain⟨a',its,n,rfl,_⟩:=hrep;show wpAny _ _ (if (es.any fun e=>e.key == Value.ref a'&&e.hash != keyHash cx.w (.tup y))=true then _ else _) Q E s
   rw[if_neg (hany _ rfl)];exact main
  | _=>simp[isKey]at hok
end
end Mine
end
section
open PySem PySem.W PyProof.Rows
namespace Mine
theorem dfind_none{k:AV}:∀ {es:List (AV × AV)},(∀ (j:Nat) (p:AV),es[j]? ≠some (k,p))→dfind es k=none
 | [],_=>rfl
 | (a,v)::r,h=>by
  unfold dfind;rw[if_neg (fun e=>h 0 v (by simp[e]))]
  exact dfind_none fun j p q=>h (j+1) p (by simpa using q)
theorem dfind_some{k p:AV}:∀ {es:List (AV × AV)} {j:Nat},(es.map (·.1)).Nodup→es[j]? =some (k,p)→dfind es k=some p
 | [],_,_,h=>by simp at h
 | (a,v)::r,0,_,h=>by
  simp only[List.getElem?_cons_zero,Option.some.injEq,Prod.mk.injEq]at h;unfold dfind;rw[if_pos h.1,h.2]
 | (a,v)::r,j+1,nd,h=>by
  simp only[List.getElem?_cons_succ]at h;rw[List.map_cons,List.nodup_cons]at nd;unfold dfind;rw[if_neg (fun e=>nd.1 (by rw[e];exact List.mem_map.mpr ⟨_,List.mem_of_getElem? h,rfl⟩))]
  exact dfind_some nd.2 h
theorem dput_new{k v:AV}:∀ {es:List (AV × AV)},(∀ (j:Nat) (p:AV),es[j]? ≠some (k,p))→dput es k v=es++[(k,v)]
 | [],_=>rfl
 | (a,x)::r,h=>by
  unfold dput;rw[if_neg (fun e=>h 0 x (by simp[e]))]
  rw[dput_new fun j p q=>h (j+1) p (by simpa using q)];rfl
theorem dput_old{k p v:AV}:∀ {es:List (AV × AV)} {j:Nat},(es.map (·.1)).Nodup→es[j]? =some (k,p)→dput es k v=es.set j (k,v)
 | [],_,_,h=>by simp at h
 | (a,x)::r,0,_,h=>by
  simp only[List.getElem?_cons_zero,Option.some.injEq,Prod.mk.injEq]at h;unfold dput;rw[if_pos h.1,h.1];rfl
 | (a,x)::r,j+1,nd,h=>by
  simp only[List.getElem?_cons_succ]at h;rw[List.map_cons,List.nodup_cons]at nd;unfold dput;rw[if_neg (fun e=>nd.1 (by rw[e];exact List.mem_map.mpr ⟨_,List.mem_of_getElem? h,rfl⟩))]
  rw[dput_old nd.2 h];rfl
theorem dput_nodup{k v:AV}{es:List (AV × AV)}(nd:(es.map (·.1)).Nodup):((dput es k v).map (·.1)).Nodup:=by
 by_cases h:∃ (j:Nat) (p:AV),es[j]? =some (k,p)
 ·obtain⟨j,p,h⟩:=h
  rw[dput_old nd h,List.map_set];have:(es.map (·.1)).set j k=es.map (·.1):=by
   apply List.ext_getElem? ;intro i
   by_cases hij:j=i
   ·subst hij
    have hl:=(List.getElem?_eq_some_iff.mp h).1;rw[List.getElem?_set_self (by simpa using hl),List.getElem?_map,h];rfl
   ·rw[List.getElem?_set_ne hij]
  rw[this];exact nd
 ·have h':∀ (j:Nat) (p:AV),es[j]? ≠some (k,p):=fun j p q=>h ⟨j,p,q⟩
  rw[dput_new h',List.map_append];refine List.nodup_append.mpr ⟨nd,by simp,?_⟩
  intro x hx y hy;simp only[List.map_cons,List.map_nil,List.mem_singleton]at hy;subst hy;rintro rfl
  obtain⟨q,hq,hq2⟩:=List.mem_map.mp hx;obtain⟨j,hj,rfl⟩:=List.getElem_of_mem hq;exact h' j es[j].2 (by rw[List.getElem?_eq_getElem hj,← hq2])
section
variable {cx:Cx} {A:Around} {E:Value→Shared→Prop} {s:Shared} {J:Jm} {H:Hp}
theorem DRep.setAt{h:Heap}{k v:AV}{val:Value}(rv:Rep J h v val):∀ {es:List (AV × AV)} {ds:List DictEntry} {j:Nat} {p:AV},DRep cx.w J h es ds→es[j]? =some (k,p)→
  DRep cx.w J h (es.set j (k,v)) (ds.modify j fun e=>{ e with val:=val })
 | _,_,_,_,.nil,e=>by simp at e
 | _,_,0,_,.cons hk rk _ hh r,e=>by
  simp only[List.getElem?_cons_zero,Option.some.injEq,Prod.mk.injEq]at e;rw[← e.1];exact .cons hk rk rv hh r
 | _,_,j+1,_,.cons hk rk rv' hh r,e=>by
  simp only[List.getElem?_cons_succ]at e;exact .cons hk rk rv' hh (DRep.setAt rv r e)
theorem DRep.push{h:Heap}{k v:AV}{key val:Value}(hk:isKey k=true)(rk:Rep J h k key)(rv:Rep J h v val):∀ {es:List (AV × AV)} {ds:List DictEntry},DRep cx.w J h es ds→
  DRep cx.w J h (es++[(k,v)]) (ds++[⟨keyHash cx.w k,key,val⟩])
 | _,_,.nil=> .cons hk rk rv rfl .nil
 | _,_,.cons hk' rk' rv' hh r=> .cons hk' rk' rv' hh (DRep.push hk rk rv r)
theorem s_dictGet{a:Addr}{ds:List DictEntry}{n:Nat}{es:List (AV × AV)}{k:AV}{key:Value}{Q:Option Value→Shared→Prop}(hu:A.units+64<cLine)(I:Inv cx J H s.heap)(ho:s.heap.get? a=some (dictOf ds n))
  (D:DRep cx.w J s.heap es ds) (nd:(es.map (·.1)).Nodup) (rk:Rep J s.heap k key) (hk:isKey k=true)
  (hnone:dfind es k=none→∀ tk,Q none { s with toks:=tk }) (hsome:∀ v val,dfind es k=some v→Rep J s.heap v val→∀ tk,Q (some val) { s with toks:=tk }):
  wpAny cx.M A (dictGet a key) Q E s:=by
 unfold dictGet;try with_reducible refine wpAny_holding ?_
 refine wpAny_bind (key_hash (by omega) rk hk fun tk=> ?_)
 refine wpAny_bind (s_dictFind (s:={ s with toks:=tk }) (H:=H) hu I ho rfl (Ents.of D nd hk rk) (fun h=> ?_) fun j p h=> ?_)
 ·exact wpAny_pure (hnone (dfind_none h) tk)
 ·obtain⟨e,h1,h2,h3,h4,h5⟩:=D.get j _ _ h
  refine wpAny_bind (wpAny_dictEntries (s:={ s with toks:=tk }) ho rfl (wpAny_pure ?_))
  have:ds.toArray[j]? =some e:=by simpa using h1
  rw[this];exact hsome p e.val (dfind_some nd h) h4 tk
theorem s_dictSet{a:Addr}{ds:List DictEntry}{n j₀:Nat}{es:List (AV × AV)}{k v:AV}{key val:Value}{Q:Unit→Shared→Prop}(hu:A.units+64<cLine)(I:Inv cx J H s.heap)(hJ:J[j₀]? =some a)(ho:s.heap.get? a=some (dictOf ds n))
  (D:DRep cx.w J s.heap es ds) (nd:(es.map (·.1)).Nodup) (hne:n=es.length) (rk:Rep J s.heap k key) (hk:isKey k=true) (rv:Rep J s.heap v val) (hz:es.length<lenLid)
  (hQ:∀ h tk ds' n',Heap.SameBut a s.heap h→h.get? a=some (dictOf ds' n')→Stp J J s.heap h noOwn→DRep cx.w J h (dput es k v) ds'→n'=(dput es k v).length→Q () { s with heap:=h,toks:=tk }):
  wpAny cx.M A (dictSet a key val) Q E s:=by
 unfold dictSet;try with_reducible refine wpAny_holding ?_
 refine wpAny_bind (key_hash (by omega) rk hk fun tk=> ?_)
 unfold dictSetHashed;try with_reducible refine wpAny_holding ?_
 have hz':ds.length≤sizeLine:=by
  rw[D.length];have z1:lenLid=1048576:=rfl;have z2:sizeLine=16777216:=by decide
  omega
 refine wpAny_bind (s_dictFind (s:={ s with toks:=tk }) (H:=H) hu I ho rfl (Ents.of D nd hk rk) (fun h=> ?_) fun j p h=> ?_)
 ·have S:Stp J J s.heap (s.heap.update a (Obj.mapDictKeys (·.push ⟨keyHash cx.w k,key,val⟩))) noOwn:=
   I.stp (mem_of_get hJ) (Heap.SameBut.update ..) (by rw[Heap.get?_update_self _ ho rfl];simp)
  have e1:(s.heap.update a (Obj.mapDictKeys (·.push ⟨keyHash cx.w k,key,val⟩))).get? a=some (dictOf (ds++[⟨keyHash cx.w k,key,val⟩]) (n+1)):=by
   rw[Heap.get?_update_self _ ho rfl];simp[Obj.mapDictKeys,dictOf]
  refine wpAny_bind (wpAny_rule (wpAny_updateDictKeys (hz:=by simpa using hz') (s:={ s with toks:=tk }) ho rfl (hQ _ tk _ _ (Heap.SameBut.update ..) e1 S ?_ (by rw[dput_new h,hne];simp))))
  rw[dput_new h];exact DRep.push hk (rk.mono S) (rv.mono S) (D.mono S)
 ·have S:Stp J J s.heap (s.heap.update a (Obj.mapDict (·.modify j fun e=>{ e with val:=val }))) noOwn:=
   I.stp (mem_of_get hJ) (Heap.SameBut.update ..) (by rw[Heap.get?_update_self _ ho rfl];simp)
  have e1:(s.heap.update a (Obj.mapDict (·.modify j fun e=>{ e with val:=val }))).get? a=some (dictOf (ds.modify j fun e=>{ e with val:=val }) n):=by
   rw[Heap.get?_update_self _ ho rfl];simp[Obj.mapDict,dictOf]
  refine wpAny_bind (wpAny_rule (wpAny_bind (wpAny_updateDict (s:={ s with toks:=tk }) ho rfl (wpAny_point (hQ _ tk _ _ (Heap.SameBut.update ..) e1 S ?_ (by rw[dput_old nd h,hne];simp))))))
  rw[dput_old nd h];exact DRep.setAt (rv.mono S) (D.mono S) h
theorem dict_typeIs{a:Addr}{ds:List DictEntry}{n:Nat}(ho:s.heap.get? a=some (dictOf ds n)):s.TypeIs (.ref a) "dict" :=⟨_,ho,rfl⟩
theorem Inv.notSys{h:Heap}(I:Inv cx J H h){k:Nat}{a:Addr}(hJ:J[k]? =some a):(a == sysModules)=false:=by
 have:=I.sys a (mem_of_get hJ);simpa using this
theorem s_containsDict{k₀:Nat}{a:Addr}{es:List (AV × AV)}{k:AV}{key:Value}{Q:Bool→Shared→Prop}(hu:A.units+70<cLine)(I:Inv cx J H s.heap)(hJ:J[k₀]? =some a)(hd:H[k₀]? =some (.dict es))
  (rk:Rep J s.heap k key) (hk:isKey k=true) (hQ:∀ tk,Q (dfind es k).isSome { s with toks:=tk }):wpAny cx.M A (contains (.ref a) key) Q E s:=by
 obtain⟨ds,n,ho,D,nd,hne⟩:=I.rep.obj _ _ _ hd hJ;have hT:=dict_typeIs ho;unfold contains;try with_reducible refine wpAny_holding ?_
 refine wpAny_bind (wpAny_specialOf hT slot_dict_contains.lookup ?_)
 show wpAny _ _ (if (some (Value.builtin "dict.__contains__") == some Value.none)=true then _ else _) _ E s
 rw[if_neg (by rw[beq_builtin_none];exact Bool.false_ne_true)]
 refine wpAny_bind (wpAny_callSpecialUnlessNone?_slot (name:=PySem.Str.ofString "__contains__") hT slot_dict_contains
  (wpAny_call_entry slot_dict_contains hT entry_dict_contains ?_ (args_dict_contains _ _)))
 show wpAny _ _ (dictGet a key >>= _) _ _ s
 refine wpAny_bind (s_dictGet (by show A.units+1+64<cLine;omega) I ho D nd rk hk (fun h tk=> ?_) fun v val h _ tk=> ?_)
 ·show wpAny _ _ (Builtin.Dict.pendingKey? a key >>= _) _ _ _
  have:=hQ tk;rw[h]at this;exact wpAny_bind (wpAny_pendingKey_other (I.notSys hJ) (wpAny_pure ⟨_,rfl,wpAny_truthy_bool this⟩))
 ·show wpAny _ _ (ret (.bool true)) _ _ _
  have:=hQ tk;rw[h]at this;exact wpAny_pure ⟨_,rfl,wpAny_truthy_bool this⟩
theorem s_inDict{k₀:Nat}{a:Addr}{es:List (AV × AV)}{k:AV}{key:Value}{Q:Value→Shared→Prop}(hu:A.units+70<cLine)(I:Inv cx J H s.heap)(hJ:J[k₀]? =some a)(hd:H[k₀]? =some (.dict es))
  (rk:Rep J s.heap k key) (hk:isKey k=true) (hQ:∀ tk,Q (.bool (dfind es k).isSome) { s with toks:=tk }):wpAny cx.M A (compareOp .In key (.ref a)) Q E s:=by
 show wpAny _ _ (do return .bool (← contains (.ref a) key)) Q E s
 exact wpAny_bind (s_containsDict hu I hJ hd rk hk fun tk=>wpAny_pure (hQ tk))
theorem s_notInDict{k₀:Nat}{a:Addr}{es:List (AV × AV)}{k:AV}{key:Value}{Q:Value→Shared→Prop}(hu:A.units+70<cLine)(I:Inv cx J H s.heap)(hJ:J[k₀]? =some a)(hd:H[k₀]? =some (.dict es))
  (rk:Rep J s.heap k key) (hk:isKey k=true) (hQ:∀ tk,Q (.bool (!(dfind es k).isSome)) { s with toks:=tk }):wpAny cx.M A (compareOp .NotIn key (.ref a)) Q E s:=by
 show wpAny _ _ (do return .bool (!(← contains (.ref a) key))) Q E s
 exact wpAny_bind (s_containsDict hu I hJ hd rk hk fun tk=>wpAny_pure (hQ tk))
theorem s_getItemDict{k₀:Nat}{a:Addr}{es:List (AV × AV)}{k v:AV}{key:Value}(hu:A.units+70<cLine)(I:Inv cx J H s.heap)(hJ:J[k₀]? =some a)(hd:H[k₀]? =some (.dict es))
  (rk:Rep J s.heap k key) (hk:isKey k=true) (hv:dfind es k=some v):wpAny cx.M A (getItem (.ref a) key) (EPost cx J s v H) E s:=by
 obtain⟨ds,n,ho,D,nd,hne⟩:=I.rep.obj _ _ _ hd hJ;have hT:=dict_typeIs ho;unfold getItem;try with_reducible refine wpAny_holding ?_
 refine wpAny_bind (wpAny_sequenceKey hT (by decide) ?_)
 refine wpAny_bind (wpAny_callSpecial?_slot (name:=PySem.Str.ofString "__getitem__") hT slot_dict_getitem
  (wpAny_call_entry slot_dict_getitem hT entry_dict_getitem ?_ (args_dict_getitem _ _)))
 show wpAny _ _ (dictGet a key >>= _) _ _ s
 refine wpAny_bind (s_dictGet (by show A.units+1+64<cLine;omega) I ho D nd rk hk (fun h tk=> ?_) fun v' val h r tk=> ?_)
 ·rw[h]at hv;cases hv
 ·rw[hv]at h;injection h with h;subst h
  exact wpAny_pure ⟨val,rfl,wpAny_pure (EPost.pure I r)⟩
theorem s_setItemDict{k₀:Nat}{a:Addr}{es:List (AV × AV)}{k v:AV}{key val:Value}{Q:Unit→Shared→Prop}(hu:A.units+70<cLine)(I:Inv cx J H s.heap)(hJ:J[k₀]? =some a)(hd:H[k₀]? =some (.dict es))
  (rk:Rep J s.heap k key) (hk:isKey k=true) (rv:Rep J s.heap v val) (hz:es.length<lenLid)
  (hQ:∀ h tk,Stp J J s.heap h noOwn→Inv cx J (H.set k₀ (.dict (dput es k v))) h→Q () { s with heap:=h,toks:=tk }):wpAny cx.M A (setItem (.ref a) key val) Q E s:=by
 obtain⟨ds,n,ho,D,nd,hne⟩:=I.rep.obj _ _ _ hd hJ;have hT:=dict_typeIs ho;unfold setItem;try with_reducible refine wpAny_holding ?_
 refine wpAny_bind (wpAny_sequenceKey hT (by decide) ?_)
 refine wpAny_bind (wpAny_callSpecial?_slot (name:=PySem.Str.ofString "__setitem__") hT slot_dict_setitem
  (wpAny_call_entry slot_dict_setitem hT entry_dict_setitem ?_ (args_dict_setitem _ _ _)))
 show wpAny _ _ (Builtin.Dict.notOrdered "__setitem__" ⟨[.ref a,key,val],[]⟩ >>= _) _ _ s
 refine wpAny_bind (wpAny_notOrdered_dict hT ?_)
 show wpAny _ _ (dictSet a key val >>= _) _ _ s
 refine wpAny_bind (s_dictSet (by show A.units+1+64<cLine;omega) I hJ ho D nd hne rk hk rv hz fun h tk ds' n' hs e S D' hn'=> ?_)
 exact wpAny_pure ⟨.none,rfl,wpAny_pure (hQ h tk S (I.set hJ hs ⟨ds',n',e,D',dput_nodup nd,hn'⟩))⟩
theorem s_dictGet2{k₀:Nat}{a:Addr}{es:List (AV × AV)}{k d:AV}{key dv:Value}(hu:A.units+70<cLine)(I:Inv cx J H s.heap)(hJ:J[k₀]? =some a)(hd:H[k₀]? =some (.dict es))
  (rk:Rep J s.heap k key) (hk:isKey k=true) (rd:Rep J s.heap d dv):wpAny cx.M A (call (.builtin "dict.get") [.ref a,key,dv]) (EPost cx J s ((dfind es k).getD d) H) E s:=by
 obtain⟨ds,n,ho,D,nd,hne⟩:=I.rep.obj _ _ _ hd hJ;have hT:=dict_typeIs ho;refine wpAny_call_entry PySem.F.slot_dict_get hT PySem.F.entry_dict_get ?_ (PySem.F.args_dict_get_3 _ _ _)
 show wpAny _ _ (dictGet a key >>= _) _ _ s
 refine wpAny_bind (s_dictGet (by show A.units+1+64<cLine;omega) I ho D nd rk hk (fun h tk=> ?_) fun v' val h r tk=> ?_)
 ·rw[h]
  show wpAny _ _ (Builtin.Dict.missed a key >>= _) _ _ _
  exact wpAny_bind (wpAny_missed_other (I.notSys hJ) (wpAny_pure ⟨dv,rfl,EPost.pure I rd⟩))
 ·rw[h]
  exact wpAny_pure ⟨val,rfl,EPost.pure I r⟩
end
end Mine
end
section
open PySem PySem.W PyProof.Rows
namespace Mine
theorem zLen:lenLid=1048576:=rfl
theorem zSize:sizeLine=16777216:=by decide
theorem seqIndex_pos{i:Int}{n:Nat}(h0:0≤i)(h:i.toNat<n):seqIndex? i n=some i.toNat:=by
 have h1:¬ i<0:=by omega
 have h2:i<(n:Int):=by omega
 simp only[seqIndex?,if_neg h1,h0,h2,decide_true,Bool.and_self,if_true]
theorem seqIndex_neg{i:Int}{n:Nat}(h0:i<0)(h:0≤i+n):seqIndex? i n=some (i+n).toNat:=by
 have h2:i+(n:Int)<(n:Int):=by omega
 simp only[seqIndex?,if_pos h0,h,h2,decide_true,Bool.and_self,if_true]
theorem dropLast_erase{α:Type}:∀ l:List α,l.dropLast=l.eraseIdx (l.length - 1)
 | []=>rfl
 | [_]=>rfl
 | x::y::r=>by
  have:=dropLast_erase (y::r);simp only[List.length_cons,Nat.add_sub_cancel]at this ⊢;rw[List.eraseIdx_cons_succ,← this];rfl
section
variable {cx:Cx} {A:Around} {E:Value→Shared→Prop} {s:Shared} {J:Jm} {H:Hp}
theorem s_getItemTup{vs:List AV}{v:AV}{i:Int}{va:Value}{t:Tok}(I:Inv cx J H s.heap)(ra:Rep J s.heap (.tup vs) va)(h:seqAt vs i=some v):
  wpAny cx.M A (getItem va (.int i t)) (EPost cx J s v H) E s:=by
 obtain⟨a,its,n,rfl,ho,rl,htz⟩:=ra;have hlen:=rl.length;simp only[Array.length_toList]at hlen;have T:IsTup s.heap a its:=⟨_,ho,rfl,_,rfl⟩;unfold seqAt at h;split at h
 ·rename_i h0
  obtain⟨val,e,r⟩:=rl.get h;have hlt:=(List.getElem?_eq_some_iff.mp h).1;have hi:seqIndex? i its.size=some i.toNat:=seqIndex_pos h0 (by omega)
  with_reducible refine getItem_tuple T (by omega) (by omega) hi (by simpa using e) ?_
  exact EPost.pure (tk:=s.toks) I r
 ·rename_i h0
  split at h
  ·rename_i h1
   obtain⟨val,e,r⟩:=rl.get h;have hlt:=(List.getElem?_eq_some_iff.mp h).1;have hi:seqIndex? i its.size=some (i+vs.length).toNat:=by rw[hlen];exact seqIndex_neg (by omega) h1
   with_reducible refine getItem_tuple T (by omega) (by omega) hi (by simpa using e) ?_
   exact EPost.pure (tk:=s.toks) I r
  ·cases h
theorem s_getItemList{vs:List AV}{v:AV}{i:Int}{k:Nat}{a:Addr}{t:Tok}(I:Inv cx J H s.heap)(hJ:J[k]? =some a)(hk:H[k]? =some (.list vs))(h:seqAt vs i=some v):
  wpAny cx.M A (getItem (.ref a) (.int i t)) (EPost cx J s v H) E s:=by
 obtain⟨its,n,ho,rl,hz⟩:=I.rep.obj _ _ _ hk hJ;have hlen:=rl.length;simp only[Array.length_toList]at hlen;have L:s.heap.IsList a its:=⟨_,ho,rfl,_,rfl⟩;unfold seqAt at h;split at h
 ·rename_i h0
  obtain⟨val,e,r⟩:=rl.get h;have hlt:=(List.getElem?_eq_some_iff.mp h).1;with_reducible refine wpAny_getItem_list L h0 (by omega) (x:=val) (by simpa using e) ?_
  exact EPost.pure (tk:=s.toks) I r
 ·rename_i h0
  split at h
  ·rename_i h1
   obtain⟨val,e,r⟩:=rl.get h;have hlt:=(List.getElem?_eq_some_iff.mp h).1;with_reducible refine wpAny_getItem_list_neg L (by omega) (by omega) (by omega) (x:=val) (by rw[hlen];simpa using e) ?_
   exact EPost.pure (tk:=s.toks) I r
  ·cases h
theorem s_setItemList{vs:List AV}{v:AV}{val:Value}{i:Int}{k:Nat}{a:Addr}{t:Tok}{Q:Unit→Shared→Prop}(I:Inv cx J H s.heap)(hJ:J[k]? =some a)(hk:H[k]? =some (.list vs))(h0:0≤i)(hlt:i.toNat<vs.length)(rv:Rep J s.heap v val)
  (hQ:∀ h tk,Stp J J s.heap h noOwn→Inv cx J (H.set k (.list (vs.set i.toNat v))) h→Q () { s with heap:=h,toks:=tk }):
  wpAny cx.M A (setItem (.ref a) (.int i t) val) Q E s:=by
 obtain⟨its,n,ho,rl,hz⟩:=I.rep.obj _ _ _ hk hJ;have hlen:=rl.length;simp only[Array.length_toList]at hlen;have L:s.heap.IsList a its:=⟨_,ho,rfl,_,rfl⟩;unfold setItem;try with_reducible refine wpAny_holding ?_
 first | refine wpAny_bind (wpAny_pure ?_) | skip
 refine wpAny_bind (wpAny_sequenceKey L.typeIs (by decide) ?_)
 refine wpAny_bind (wpAny_callSpecial?_slot (name:=PySem.Str.ofString "__setitem__") L.typeIs slot_list_setitem
  (wpAny_call_entry slot_list_setitem L.typeIs entry_list_setitem ?_ (args_list_setitem _ _ _)))
 show wpAny _ _ (Builtin.List.listSubscript? (.int i t) >>= _) _ _ s
 refine wpAny_bind (wpAny_listSubscript_int (fitsIndex_of h0 (by omega)) ?_)
 obtain⟨j,rfl⟩:=Int.eq_ofNat_of_zero_le h0;simp only[Int.toNat_natCast]at hlt hQ;have hj:j<its.size:=by omega
 have hx':its[j]? =some its[j]:=Array.getElem?_eq_getElem hj;show wpAny _ _ ((seqItemAt a j >>= fun r=>pure (r.map (j,·))) >>= _) _ _ s
 refine wpAny_bind (wpAny_bind (wpAny_seqItemAt ho rfl (wpAny_pure ?_)))
 rw[hx'];show wpAny _ _ (setSeqItemAt a j val >>= _) _ _ s
 have fin:Q () { s with heap:=s.heap.update a (Obj.mapSeq (·.setIfInBounds j val)) }:=by
  obtain⟨n',e1⟩:∃ n',(s.heap.update a (Obj.mapSeq (·.setIfInBounds j val))).get? a=some (listOf (its.setIfInBounds j val) n'):=⟨_,Heap.get?_update_self _ ho rfl⟩;have S:=I.stp (mem_of_get hJ) (Heap.SameBut.update s.heap a (Obj.mapSeq (·.setIfInBounds j val))) (by rw[e1];simp)
  refine hQ _ s.toks S (I.set hJ (Heap.SameBut.update ..) ⟨_,n',e1,?_,by rw[Array.size_setIfInBounds];exact hz⟩)
  rw[Array.toList_setIfInBounds];exact RepL.set (rv.mono S) j (rl.mono S)
 refine wpAny_bind (wpAny_setSeqItemAt ho rfl ?_)
 first
  | exact wpAny_bind (wpAny_pure (wpAny_pure ⟨.none,rfl,wpAny_pure fin⟩))
  | exact wpAny_pure ⟨.none,rfl,wpAny_pure fin⟩
theorem s_append{vs:List AV}{v:AV}{val:Value}{k:Nat}{a:Addr}(I:Inv cx J H s.heap)(hJ:J[k]? =some a)(hk:H[k]? =some (.list vs))(rv:Rep J s.heap v val)(hz:vs.length<lenLid):
  wpAny cx.M A (call (.builtin "list.append") [.ref a,val]) (EPost cx J s .none (H.set k (.list (vs++[v])))) E s:=by
 obtain⟨its,n,ho,rl,_⟩:=I.rep.obj _ _ _ hk hJ;have hlen:=rl.length;simp only[Array.length_toList]at hlen;rw[zLen]at hz;have z2:=zSize;with_reducible refine append_at ho (fun h' hs e=> ?_) (by omega)
 refine EPost.set (tk:=s.toks) I hJ hs (fun S=>⟨_,_,e,?_,?_⟩) (by rw[e];simp) rfl
 ·rw[Array.toList_push];exact (rl.mono S).append ⟨val,[],rfl,rv.mono S,rfl⟩
 ·rw[Array.size_push];omega
theorem s_extendWith{vs ws:List AV}{k:Nat}{a b:Addr}{its2:Array Value}{n2:Nat}{T:String}(hT:T= "list" ∨T= "tuple")(I:Inv cx J H s.heap)(hJ:J[k]? =some a)(hk:H[k]? =some (.list vs))
  (hb:s.heap.get? b=some { cls:= .type T,data:= .seq its2 n2 }) (rw2:RepL J s.heap ws its2.toList) (hz:vs.length+ws.length<lenLid):
  wpAny cx.M A (call (.builtin "list.extend") [.ref a,.ref b]) (EPost cx J s .none (H.set k (.list (vs++ws)))) E s:=by
 obtain⟨its,n,ho,rl,_⟩:=I.rep.obj _ _ _ hk hJ;have hlen:=rl.length;have hlen2:=rw2.length;simp only[Array.length_toList]at hlen hlen2;rw[zLen]at hz;have z2:=zSize;have hdoor:¬(!its.isEmpty&&Builtin.List.listTooLong (its.size+its2.size))=true:=by
  unfold Builtin.List.listTooLong;rw[decide_eq_false (by omega)];simp
 have Ta:s.TypeIs (.ref a) "list" :=⟨_,ho,rfl⟩;have fin:EPost cx J s .none (H.set k (.list (vs++ws))) .none { s with heap:=s.heap.update a (Obj.mapSeq fun xs=>xs++its2) }:=by
  have e1:=Heap.get?_update_self (Obj.mapSeq fun xs=>xs++its2) ho rfl
  refine EPost.set (tk:=s.toks) I hJ (Heap.SameBut.update ..) (fun S=>⟨its++its2,_,e1,?_,?_⟩) (by rw[e1];simp) rfl
  ·rw[Array.toList_append];exact (rl.mono S).append (rw2.mono S)
  ·rw[Array.size_append];omega
 rcases hT with rfl | rfl
 ·have W:=AutoSeq1.list_extend_list_list_0 a its n b its2 n2 hdoor (by omega) (by omega)
  with_reducible refine call_meets PySem.F.slot_list_extend Ta PySem.F.entry_list_extend (PySem.F.args_list_extend_2 _ _) W ?_
  exact⟨ho,hb,fin⟩
 ·have W:=AutoSeq1.list_extend_list_tuple_0 a its n b its2 n2 hdoor (by omega) (by omega)
  with_reducible refine call_meets PySem.F.slot_list_extend Ta PySem.F.entry_list_extend (PySem.F.args_list_extend_2 _ _) W ?_
  exact⟨ho,hb,fin⟩
theorem RepL.dropLast{h:Heap}:∀ {vs:List AV} {vals:List Value},RepL J h vs vals→RepL J h vs.dropLast vals.dropLast
 | [],_,e=>by rw[e];exact rfl
 | [_],_,⟨y,ys,e,_,rs⟩=>by subst e;simp only[RepL]at rs;subst rs;exact rfl
 | _::x::xs,_,⟨y,ys,e,r,rs⟩=>by
  subst e;have:=RepL.dropLast rs;obtain⟨y2,ys2,e2,_,_⟩:=rs;subst e2;exact⟨y,_,rfl,r,this⟩
theorem s_pop{vs:List AV}{v:AV}{k:Nat}{a:Addr}(I:Inv cx J H s.heap)(hJ:J[k]? =some a)(hk:H[k]? =some (.list vs))(h:vs.getLast? =some v):
  wpAny cx.M A (call (.builtin "list.pop") [.ref a]) (EPost cx J s v (H.set k (.list vs.dropLast))) E s:=by
 obtain⟨its,n,ho,rl,hz⟩:=I.rep.obj _ _ _ hk hJ;have hlen:=rl.length;simp only[Array.length_toList]at hlen;have z2:=zSize;rw[List.getLast?_eq_getElem?]at h;obtain⟨val,e,r⟩:=rl.get h;have Ta:s.TypeIs (.ref a) "list" :=⟨_,ho,rfl⟩;have W:=MeetsSeq.list_pop_last a its n val (by rw[hlen];simpa using e) (by omega)
 with_reducible refine call_meets PySem.F.slot_list_pop Ta PySem.F.entry_list_pop (PySem.F.args_list_pop_1 _) W ?_
 refine⟨ho,?_⟩
 show EPost cx J s v _ val { s with heap:=s.heap.update a (Obj.mapSeq fun xs=>xs.eraseIdxIfInBounds (its.size - 1)) }
 obtain⟨n',e1⟩:∃ n',(s.heap.update a (Obj.mapSeq fun xs=>xs.eraseIdxIfInBounds (its.size - 1))).get? a=some (listOf (its.eraseIdxIfInBounds (its.size - 1)) n'):=
  ⟨_,Heap.get?_update_self (Obj.mapSeq fun xs=>xs.eraseIdxIfInBounds (its.size - 1)) ho rfl⟩
 have e2:(its.eraseIdxIfInBounds (its.size - 1)).toList=its.toList.dropLast:=by
  rw[Array.toList_eraseIdxIfInBounds,dropLast_erase,Array.length_toList]
 refine EPost.set (tk:=s.toks) I hJ (Heap.SameBut.update ..) (fun S=>⟨_,_,e1,?_,?_⟩) (by rw[e1];simp) r
 ·rw[e2];exact (rl.mono S).dropLast
 ·have:=congrArg List.length e2
  simp only[Array.length_toList,List.length_dropLast]at this;omega
theorem s_lenList{vs:List AV}{k:Nat}{a:Addr}(I:Inv cx J H s.heap)(hJ:J[k]? =some a)(hk:H[k]? =some (.list vs)):
  wpAny cx.M A (call (.builtin "len") [.ref a]) (EPost cx J s (.int vs.length) H) E s:=by
 obtain⟨its,n,ho,rl,hz⟩:=I.rep.obj _ _ _ hk hJ;have hlen:=rl.length;simp only[Array.length_toList]at hlen;have L:s.heap.IsList a its:=⟨_,ho,rfl,_,rfl⟩;with_reducible refine len_list L (by omega) ?_
 rw[← hlen];exact EPost.pure I ⟨_,rfl⟩
theorem s_lenTup{vs:List AV}{va:Value}(I:Inv cx J H s.heap)(ra:Rep J s.heap (.tup vs) va):
  wpAny cx.M A (call (.builtin "len") [va]) (EPost cx J s (.int vs.length) H) E s:=by
 obtain⟨a,its,n,rfl,ho,rl,htz⟩:=ra;have hlen:=rl.length;simp only[Array.length_toList]at hlen;have T:IsTup s.heap a its:=⟨_,ho,rfl,_,rfl⟩;with_reducible refine len_tuple T (by omega) ?_
 rw[← hlen];exact EPost.pure I ⟨_,rfl⟩
theorem s_list{vs:List AV}{k:Nat}{a:Addr}(I:Inv cx J H s.heap)(hJ:J[k]? =some a)(hk:H[k]? =some (.list vs)):
  wpAny cx.M A (call (.type "list") [.ref a]) (EPost cx J s (.ref H.length) (H++[.list vs])) E s:=by
 obtain⟨its,n,ho,rl,hz⟩:=I.rep.obj _ _ _ hk hJ;have z2:=zSize;with_reducible refine call_list_seq a (.inl rfl) ho rfl rfl (fun h' c' hk' e=> ?_) (by omega)
 exact EPost.push (tk:=s.toks) I hk' fun S=>⟨its,c',e,rl.mono S,hz⟩
theorem s_tuple{vs:List AV}{k:Nat}{a:Addr}(I:Inv cx J H s.heap)(hJ:J[k]? =some a)(hk:H[k]? =some (.list vs)):
  wpAny cx.M A (call (.type "tuple") [.ref a]) (EPost cx J s (.tup vs) H) E s:=by
 obtain⟨its,n,ho,rl,hz⟩:=I.rep.obj _ _ _ hk hJ;have z2:=zSize;have L:s.heap.IsList a its:=⟨_,ho,rfl,_,rfl⟩;with_reducible refine call_tuple_list L (fun h' hk'=> ?_) (by omega)
 have kk:∀ b o,s.heap.get? b=some o→(h'.push { cls:= .type "tuple",data:= .seq its }).get? b=some o:=fun b o e=>Heap.get?_push_of_some _ (hk' b o e)
 refine⟨⟨_,s.toks,rfl⟩,J,Stp.of_keeps kk,I.keeps kk,h'.objs.size,its,0,rfl,Heap.get?_push_size _ rfl,rl.mono (Stp.of_keeps (own:=noOwn) kk),hz⟩
end
end Mine
end
section
open PySem PySem.W PyProof.Rows
namespace Mine
section
variable {cx:Cx} {A:Around} {E:Value→Shared→Prop} {s:Shared} {J:Jm} {H:Hp}
theorem ints_are{h:Heap}:∀ {vs:List AV} {vals:List Value} {is:List Int},RepL J h vs vals→intsOf vs=some is→IntsAre vals is
 | [],_,_,e,q=>by simp only[intsOf,Option.some.injEq]at q;subst q;rw[e];exact .nil
 | .int i::vs,_,_,⟨y,ys,e,r,rs⟩,q=>by
  simp only[intsOf,Option.map_eq_some_iff]at q;obtain⟨is,q,rfl⟩:=q;obtain⟨t,rfl⟩:=r;rw[e];exact .cons i t (ints_are rs q)
 | .none::_,_,_,_,q=>by simp[intsOf]at q
 | .bool _::_,_,_,_,q=>by simp[intsOf]at q
 | .str _::_,_,_,_,q=>by simp[intsOf]at q
 | .tup _::_,_,_,_,q=>by simp[intsOf]at q
 | .ref _::_,_,_,_,q=>by simp[intsOf]at q
theorem s_sum{vs:List AV}{is:List Int}{k:Nat}{a:Addr}(hC:CxOk cx)(hh:A.handled=none)(I:Inv cx J H s.heap)(hJ:J[k]? =some a)(hk:H[k]? =some (.list vs))(hi:intsOf vs=some is):
  wpAny cx.M A (call (.builtin "sum") [.ref a]) (EPost cx J s (.int is.sum) H) E s:=by
 obtain⟨its,n,ho,rl,hz⟩:=I.rep.obj _ _ _ hk hJ;have L:s.heap.IsList a its:=⟨_,ho,rfl,_,rfl⟩;have hia:=ints_are rl hi;obtain⟨xs,e⟩:=(hia.allInts:AllInts its.toList.toArray).items;rw[Array.toArray_toList]at e;subst e;with_reducible refine sum_intListG hh L (fun h' tk t' hk'=> ?_)
 have e:preSum (numAt xs) xs.size=is.sum:=by
  have h1:=hia.numsOf;rw[nums_intItems]at h1;rw[← h1,preSum_eq,List.take_of_length_le (by simp)]
 rw[e];exact EPost.keeps I hk' ⟨t',rfl⟩
theorem s_min2{x y:Int}{va vb:Value}(hh:A.handled=none)(I:Inv cx J H s.heap)(ra:Rep J s.heap (.int x) va)(rb:Rep J s.heap (.int y) vb):
  wpAny cx.M A (call (.builtin "min") [va,vb]) (EPost cx J s (.int (if y<x then y else x)) H) E s:=by
 obtain⟨t,rfl⟩:=ra;obtain⟨u,rfl⟩:=rb;with_reducible refine min_two_ints hh (fun h' tk hk'=> ?_)
 refine EPost.keeps I hk' ?_
 split
 ·exact⟨_,rfl⟩
 ·exact⟨_,rfl⟩
theorem argBest_min(ns:List Int)(a:Int)(r:List Int)(e:ns=a::r):∀ k,k<ns.length→
  ns.getD (argBest (fun i j=>decide (ns.getD i 0<ns.getD j 0)) k) 0=(r.take k).foldl (fun m x=>if x<m then x else m) a
 | 0,_=>by subst e;rfl
 | k+1,h=>by
  have ih:=argBest_min ns a r e k (by omega)
  subst e;have hk:k<r.length:=by simpa using h
  rw[List.take_succ_eq_append_getElem hk,List.foldl_append,← ih];simp only[List.foldl_cons,List.foldl_nil];have e1:(a::r).getD (k+1) 0=r[k]:=by simp[hk]
  have ab:argBest (fun i j=>decide ((a::r).getD i 0<(a::r).getD j 0)) (k+1)=if decide ((a::r).getD (k+1) 0<(a::r).getD (argBest (fun i j=>decide ((a::r).getD i 0<(a::r).getD j 0)) k) 0)=true then k+1 else argBest (fun i j=>decide ((a::r).getD i 0<(a::r).getD j 0)) k:=rfl
  rw[ab];by_cases q:(a::r).getD (k+1) 0<(a::r).getD (argBest (fun i j=>decide ((a::r).getD i 0<(a::r).getD j 0)) k) 0
  ·rw[decide_eq_true q,if_pos rfl,if_pos (by rw[← e1];exact q),e1]
  ·rw[decide_eq_false q,if_neg (by simp),if_neg (by rw[← e1];exact q)]
theorem s_min1{vs:List AV}{is:List Int}{m:Int}{va:Value}(hh:A.handled=none)(I:Inv cx J H s.heap)(ra:Rep J s.heap (.tup vs) va)(hi:intsOf vs=some is)(hm:minL is=some m):
  wpAny cx.M A (call (.builtin "min") [va]) (EPost cx J s (.int m) H) E s:=by
 obtain⟨a,its,n,rfl,ho,rl,htz⟩:=ra;have T:s.heap.IsTuple a its:=⟨_,ho,rfl,_,rfl⟩;have hia:=ints_are rl hi;have hlen:is.length=its.size:=by have:=hia.length;simpa using this.symm
 cases is with
 | nil=>simp[minL]at hm
 | cons x r=>
  simp only[minL,Option.some.injEq]at hm;refine call_min_walk ?_
  with_reducible refine wpAny_pyIter_tuple T ?_
  have hne:a≠s.heap.objs.size:=Nat.ne_of_lt (Heap.lt_size ho);have hval:∀ (i:Nat) (v:Value),its[i]? =some v→∃ t,v= .int ((x::r).getD i 0) t:=fun i v hv=>
   IntsAre.int_at hia i v (by rw[Array.getElem?_toList];exact hv)
  refine⟨s.heap.objs.size,[s.heap.objs.size,a],[s.heap.objs.size],its.size,_,_,(fun i j=>decide ((x::r).getD i 0<(x::r).getD j 0)),rfl,Walks.tuple (A:=A.in1) hh _ a hne its,?_,?_,?_,?_,?_⟩
  ·exact⟨⟨_,Heap.get?_push_size _ rfl,rfl,rfl⟩,⟨_,Heap.get?_push_of_some _ ho,rfl,_,rfl⟩⟩
  ·intro b hb
   rw[Heap.size_push];rcases List.mem_cons.mp hb with rfl | hb
   ·exact Nat.lt_succ_self _
   ·rw[List.mem_singleton.mp hb];exact Nat.lt_succ_of_lt (Heap.lt_size ho)
  ·rw[← hlen];simp
  ·intro i j vi vj s' Q' E' hvi hvj hQ
   obtain⟨t,rfl⟩:=hval i vi hvi;obtain⟨u,rfl⟩:=hval j vj hvj;exact PyProof.Rows.lt_int hQ
  ·intro v h' tk hv hk'
   obtain⟨t,rfl⟩:=hval _ v hv;have hb:=argBest_min (x::r) x r rfl (its.size - 1) (by rw[← hlen];simp)
   rw[hb];have:r.take (its.size - 1)=r:=List.take_of_length_le (by rw[← hlen];simp)
   rw[this,hm];refine EPost.keeps (h:=h') I (fun b o e=>hk' b o ?_ (Heap.get?_push_of_some _ e)) ⟨t,rfl⟩
   intro q;rw[List.mem_singleton.mp q]at e;rw[fresh_size]at e;cases e
theorem strInt_eq:∀ k:Fin 256,PySem.Str.ofString (toString ((k.val:Nat):Int))=⟨(strInt k.val).toArray⟩:=by decide+kernel
theorem strInt_ok:∀ k:Fin 256,∀ c∈strInt k.val,c<1114112:=by decide+kernel
theorem s_str{i:Int}{va:Value}(I:Inv cx J H s.heap)(ra:Rep J s.heap (.int i) va)(h0:0≤i)(h1:i<strLid):
  wpAny cx.M A (call (.type "str") [va]) (EPost cx J s (.str (strInt i)) H) E s:=by
 obtain⟨t,rfl⟩:=ra;have z:strLid=256:=rfl;obtain⟨k,rfl⟩:=Int.eq_ofNat_of_zero_le h0;have hk:k<256:=by omega
 have hlog:(k:Int).natAbs.log2<1920:=by
  rcases Nat.eq_zero_or_pos k with q | q
  ·subst q;decide
  ·have:k.log2<8:=(Nat.log2_lt (by omega)).mpr (by omega)
   simp only[Int.natAbs_natCast];omega
 with_reducible refine P.str_of_int hlog ?_
 rw[strInt_eq ⟨k,hk⟩];exact EPost.pure I ⟨strInt_ok ⟨k,hk⟩,_,rfl⟩
end
end Mine
end
section
open PySem PySem.W PyProof.Rows
namespace Mine
section
variable {cx:Cx} {A:Around} {E:Value→Shared→Prop} {s:Shared} {J:Jm} {H:Hp}
theorem seq_list_iadd:seqSlot? (.type "list") (dunderI "add")=pure (some (.builtin "list.__iadd__")):=PySem.seqSlot_of PySem.F.slot_list_iadd.lookup (by decide+kernel)
theorem fills_list_iadd(b:Bool):fillsInplaceSlot (.type "list") "add" b=pure false:=by
 unfold fillsInplaceSlot;show (typeLookup (.type "list") (dunderI "add") >>= fun fi=>pure (fi.isSome&& !isSeqSlot fi))=pure false
 rw[PySem.F.slot_list_iadd.lookup];have:isSeqSlot (some (.builtin "list.__iadd__"))=true:=by decide+kernel
 show (pure (true&& !isSeqSlot (some (.builtin "list.__iadd__"))):Sem Bool)=pure false
 rw[this];rfl
theorem s_iaddList{xs ys:List AV}{i j:Nat}{a b:Addr}(I:Inv cx J H s.heap)(hJa:J[i]? =some a)(hJb:J[j]? =some b)(hi:H[i]? =some (.list xs))(hj:H[j]? =some (.list ys))(hz:xs.length+ys.length<lenLid):
  wpAny cx.M A (inplaceOp .Add (.ref a) (.ref b)) (EPost cx J s (.ref i) (H.set i (.list (xs++ys)))) E s:=by
 obtain⟨ix,nx,ex,rx,_⟩:=I.rep.obj _ _ _ hi hJa;obtain⟨iy,ny,ey,ry,_⟩:=I.rep.obj _ _ _ hj hJb;have lx:=rx.length;have ly:=ry.length;simp only[Array.length_toList]at lx ly;rw[zLen]at hz;have z2:=zSize;have Ta:s.TypeIs (.ref a) "list" :=⟨_,ex,rfl⟩;have Tb:s.TypeIs (.ref b) "list" :=⟨_,ey,rfl⟩;unfold inplaceOp;refine wpAny_holding ?_
 refine wpAny_bind (wpAny_typeOf Ta (wpAny_bind (wpAny_of_eq (fills_list_iadd _) ?_)))
 show wpAny _ A (if false=true then _ else _) _ E s
 rw[if_neg Bool.false_ne_true];refine wpAny_bind (wpAny_binaryOp1_none (nm:= "add") Ta Tb noFill_list_add ?_)
 refine wpAny_bind (wpAny_of_eq seq_list_iadd ?_)
 refine wpAny_bind (wpAny_rule ?_)
 have hdoor:¬(!ix.isEmpty&&Builtin.List.listTooLong (ix.size+iy.size))=true:=by
  unfold Builtin.List.listTooLong;rw[decide_eq_false (by omega)];simp
 have W:=AutoSeq1.list___iadd___list_list_0 a ix nx b iy ny hdoor (by omega) (by omega)
 refine call_meets PySem.F.slot_list_iadd Ta PySem.F.entry_list_iadd (PySem.F.args_list_iadd_2 _ _) W ⟨ex,ey,?_⟩
 show EPost cx J s _ _ (.ref a) { s with heap:=s.heap.update a (Obj.mapSeq fun xs=>xs++iy) }
 have e1:=Heap.get?_update_self (Obj.mapSeq fun xs=>xs++iy) ex rfl
 refine EPost.set (tk:=s.toks) I hJa (Heap.SameBut.update ..) (fun S=>⟨ix++iy,_,e1,?_,?_⟩) (by rw[e1];simp) ⟨a,hJa,rfl⟩
 ·rw[Array.toList_append];exact (rx.mono S).append (ry.mono S)
 ·rw[Array.size_append];omega
theorem s_inplV{o:Op}{a b v:AV}{va vb:Value}{H':Hp}(ho:o= .add∨o= .sub∨o= .bor)(I:Inv cx J H s.heap)(ra:Rep J s.heap a va)(rb:Rep J s.heap b vb)(h:inplV H o a b=some (v,H')):
  wpAny cx.M A (inplaceOp (opr o) va vb) (EPost cx J s v H') E s:=by
 unfold inplV at h;split at h
 ·obtain⟨t,rfl⟩:=ra;obtain⟨u,rfl⟩:=rb
  simp only[Option.map_eq_some_iff]at h;obtain⟨r,hr,e⟩:=h;cases e;with_reducible refine s_iintOp hr ho ?_
  exact fun t' tk=>EPost.pure I ⟨t',rfl⟩
 ·rename_i x y
  split at h
  ·rename_i xs ys hx hy
   split at h
   ·rename_i q
    cases h;obtain⟨ax,hax,rfl⟩:=ra;obtain⟨ay,hay,rfl⟩:=rb;simp only[opr];with_reducible exact s_iaddList I hax hay hx hy q.2
   ·cases h
  ·cases h
 ·cases h
theorem firstMet_dedup(ns:List Int):∀ k,k≤ns.length→firstMet (fun i=>ns.getD i 0) k=(ns.take k).foldl (fun acc x=>if acc.any (· == x) then acc else acc++[x]) []
 | 0,_=>rfl
 | k+1,h=>by
  rw[firstMet_succ,firstMet_dedup ns k (by omega),List.take_succ_eq_append_getElem (by omega),List.foldl_append]
  simp only[List.foldl_cons,List.foldl_nil];unfold step_dedup;have:ns.getD k 0=ns[k]:=by simp[List.getD,List.getElem?_eq_getElem (show k<ns.length by omega)]
  rw[this]
theorem firstMet_len(ns:List Int):(firstMet (fun i=>ns.getD i 0) ns.length).length=dedupLen ns:=by
 rw[firstMet_dedup ns _ (Nat.le_refl _),List.take_length];rfl
end
end Mine
end
section
open PySem PySem.W PyProof.Rows Builtin Builtin.ObjectAttr Builtin.Getset_descriptor
namespace Mine
structure ClsOk(cx:Cx):Prop where
 get:plainGet cx.K cx.C "" =true
 dict:hasDictIn cx.K cx.C=true
 over:plainOver cx.K cx.C=true
 set:findIn cx.K (.ref cx.C) "__setattr__" =some (some (.builtin "object.__setattr__"))
 no:∀ n∈attrNames,findIn cx.K (.ref cx.C) ⟨n.toArray⟩=some none
section
variable {cx:Cx} {A:Around} {E:Value→Shared→Prop} {s:Shared} {J:Jm} {H:Hp}
theorem str_inj{a b:Nm}(h:(⟨a.toArray⟩:PySem.Str)=⟨b.toArray⟩):a=b:=by
 injection h with h;exact List.toArray_inj h
theorem Rep.isStr{h:Heap}{k:AV}{key:Value}{n:Nm}(hk:isKey k=true)(r:Rep J h k key):key.isStr ⟨n.toArray⟩=decide (k= .str n):=by
 cases k with
 | str s=>
  obtain⟨_,t,rfl⟩:=r;by_cases q:s=n
  ·subst q;simp[Value.isStr]
  ·have:¬ (⟨s.toArray⟩:PySem.Str)=⟨n.toArray⟩:=fun z=>q (str_inj z)
   simp[Value.isStr,q,this]
 | int i=>obtain ⟨t,rfl⟩:=r;simp[Value.isStr]
 | tup vs=>obtain ⟨a,its,m,rfl,_⟩:=r;simp[Value.isStr]
 | none=>cases hk
 | bool b=>cases hk
 | ref a=>cases hk
theorem dget_L{w:World}{h:Heap}{n:Nm}{v:AV}:∀ {es:List (AV × AV)} {ds:List DictEntry},DRep w J h es ds→dfind es (.str n)=some v→
  ∃ val,getL ⟨n.toArray⟩ ds=some (some val)∧Rep J h v val
 | _,_,.nil,e=>by cases e
 | _,_,.cons (k:=k) (v:=x) (key:=key) (val:=val) hk rk rv hh r,e=>by
  unfold dfind at e;unfold getL;rw[List.find?_cons];have hs:key.isStr ⟨n.toArray⟩=decide (k= .str n):=rk.isStr hk;by_cases q:k= .str n
  ·rw[if_pos q]at e
   cases e;simp only[hs,q,decide_true];exact⟨val,rfl,rv⟩
  ·rw[if_neg q]at e
   obtain⟨val',g,rr⟩:=dget_L r e;simp only[hs,q,decide_false];refine⟨val',?_,rr⟩
   unfold getL at g;split at g
   ·rename_i en he;rw[he];exact g
   ·split at g<;>cases g
theorem okDict_noref{w:World}{h:Heap}:∀ {es:List (AV × AV)} {ds:List DictEntry},DRep w J h es ds→okDict es=true→∀ e∈ds,e.refKey=false
 | _,_,.nil,_,e,m=>by cases m
 | _,_,.cons (k:=k) (key:=key) hk rk rv hh r,o,e,m=>by
  unfold okDict at o;rw[List.all_cons,Bool.and_eq_true]at o;cases m with
  | head=>
   cases k with
   | str s=>obtain ⟨_,t,rfl⟩:=rk;rfl
   | _=>cases o.1
  | tail _ m=>exact okDict_noref r o.2 e m
theorem okDict_none{w:World}{h:Heap}{x:PySem.Str}(hx:attrNames.contains x.cps.toList=false):∀ {es:List (AV × AV)} {ds:List DictEntry},DRep w J h es ds→okDict es=true→getL x ds=some none:=by
 intro es ds D o;have hn:ds.find? (·.key.isStr x)=none:=by
  rw[List.find?_eq_none];induction D with
  | nil=>intro e m;cases m
  | cons hk rk rv hh r ih=>
   rename_i k v hs key val es ds;unfold okDict at o;rw[List.all_cons,Bool.and_eq_true]at o;intro e m;cases m with
   | head=>
    cases k with
    | str s=>
     obtain⟨_,t,rfl⟩:=rk;have hc:attrNames.contains s=true:=o.1;intro z;have z:(⟨s.toArray⟩:PySem.Str)=x:=by simpa[Value.isStr] using z
     rw[← z]at hx;simp only[hc]at hx;cases hx
    | _=>cases o.1
   | tail _ m=>exact ih o.2 e m
 have hr:ds.any (·.refKey)=false:=by
  rw[List.any_eq_false];intro e m;rw[okDict_noref D o e m];decide
 unfold getL;rw[hn,hr];rfl
theorem putL_rep{w:World}{h:Heap}{n:Nm}{v:AV}{val:Value}{t:Tok}(hn:∀ c∈n,c<1114112)(rv:Rep J h v val):∀ {es:List (AV × AV)} {ds:List DictEntry},DRep w J h es ds→
  DRep w J h (dput es (.str n) v) (putL ⟨n.toArray⟩ (PySem.hashStr w ⟨n.toArray⟩) (.str ⟨n.toArray⟩ t) val ds)
 | _,_,.nil=> .cons rfl ⟨hn,t,rfl⟩ rv rfl .nil
 | _,_,.cons (k:=k) (key:=key) hk rk rv' hh r=>by
  unfold dput putL;have hs:key.isStr ⟨n.toArray⟩=decide (k= .str n):=rk.isStr hk;by_cases q:k= .str n
  ·simp only[hs,q,decide_true,if_true]
   subst q;exact .cons hk rk rv hh r
  ·simp only[hs,q,decide_false,if_false,Bool.false_eq_true]
   exact .cons hk rk rv' hh (putL_rep hn rv r)
theorem putN_len{w:World}{h:Heap}{n:Nm}{v:AV}:∀ {es:List (AV × AV)} {ds:List DictEntry},DRep w J h es ds→(if ds.any (·.key.isStr ⟨n.toArray⟩) then es.length else es.length+1)=(dput es (.str n) v).length
 | _,_,.nil=>rfl
 | _,_,.cons (k:=k) (key:=key) hk rk rv' hh r=>by
  have hs:key.isStr ⟨n.toArray⟩=decide (k= .str n):=rk.isStr hk;unfold dput;rw[List.any_cons,hs];by_cases q:k= .str n
  ·simp[q]
  ·have ih:=putN_len (n:=n) (v:=v) r
   simp only[q,decide_false,Bool.false_or,if_false,List.length_cons];rw[← ih];split<;>rfl
theorem attr_lt:∀ n∈attrNames,∀ c∈n,c<1114112:=by decide
theorem mem_attr{n:Nm}(h:attrNames.contains n=true):n∈attrNames:=by simpa using h
theorem Inv.K(hC:CxOk cx){h:Heap}(I:Inv cx J H h):cx.K.In h:=hC.X.keeps I.base
theorem inst_at{h:Heap}(I:Inv cx J H h){k d:Nat}{a:Addr}(hJ:J[k]? =some a)(hk:H[k]? =some (.inst d)){es:List (AV × AV)}(hd:H[d]? =some (.dict es)):
  ∃ dx ds n,J[d]? =some dx∧h.get? dx=some (dictOf ds n)∧DRep cx.w J h es ds∧(es.map (·.1)).Nodup∧n=es.length∧W.InstAt h a (instObj cx.C dx) cx.C (some (dictOf ds n)):=by
 obtain⟨dx,q,ho⟩:=I.rep.obj k _ a hk hJ;obtain⟨ds,n,q2,D,nd,hne⟩:=I.rep.obj d _ dx hd q;exact⟨dx,ds,n,q,q2,D,nd,hne,⟨ho,rfl,rfl,q2⟩⟩
theorem Rep.handed{h:Heap}{v:AV}{val:Value}(r:Rep J h v val):handedIn val=true:=by
 cases v with
 | none=>cases r;rfl
 | bool b=>cases r;rfl
 | int i=>obtain ⟨t,rfl⟩:=r;rfl
 | str s=>obtain ⟨_,t,rfl⟩:=r;rfl
 | tup vs=>obtain ⟨a,its,n,rfl,_⟩:=r;rfl
 | ref k=>obtain ⟨a,_,rfl⟩:=r;rfl
theorem s_getAttr{n:Nm}{v:AV}{o:AV}{va:Value}{expr:Bool}{Q:Value→Shared→Prop}(hC:CxOk cx)(hK:ClsOk cx)(I:Inv cx J H s.heap)(ra:Rep J s.heap o va)(h:attrV H o n=some v)
  (hQ:∀ val tk,Rep J s.heap v val→Q val { s with toks:=tk }):wpAny cx.M A (getAttr va ⟨n.toArray⟩ expr) Q E s:=by
 unfold attrV at h;split at h
 ·rename_i k
  obtain⟨a,hJ,rfl⟩:=ra;split at h
  ·rename_i d hk
   split at h
   ·rename_i es hd
    split at h
    ·rename_i hn
     obtain⟨dx,ds,m,hJd,hod,D,nd,hne,IA⟩:=inst_at I hJ hk hd;obtain⟨val,g,rv⟩:=dget_L D h;exact get_value (I.K hC) IA (plainGet_of hK.get).1 (findObj_own hK.dict (hK.no n (mem_attr hn)) rfl g) rv.handed (hQ _ _ rv)
    ·cases h
   ·cases h
  ·cases h
 ·cases h
theorem s_storeOwn{x dx:Addr}{ds:List DictEntry}{n:Nat}{name:PySem.Str}{tk:Tok}{v:Value}{b:Bool}{Q:Fin→Shared→Prop}(X:cx.K.In s.heap)(hK:ClsOk cx)(IA:W.InstAt s.heap x (instObj cx.C dx) cx.C (some (dictOf ds n)))
  (hr:(!ds.any (·.key.isStr name)&&ds.any (·.refKey))=false) (hz:(putL name (PyData.keyHash cx.w.params name) (.str name s.toks) v ds).length≤1000)
  (h:Q (.done (.ret .none)) { s with heap:=s.heap.update dx (Obj.putName name (PyData.keyHash cx.w.params name) (.str name s.toks) v),toks:=s.toks+1 }):
  wpAny cx.M A (storeInOwnDict (.ref x) (.ref cx.C) (.str name tk) name v b) Q E s:=by
 obtain⟨cd,hc,hd'⟩:=any_some hK.dict;obtain⟨hx,hcl,hn,D⟩:=IA;refine wpAny_bind (wpAny_pure (wpAny_bind (wpAny_bind (wpAny_loadPart hx (wpAny_bind ((looks_clsIn X hc).here ?_))))))
 rw[hd'];refine wpAny_pure (a:=some dx) (wpAny_bind (wpAny_pure (wpAny_bind ?_)))
 unfold nsSet;refine wpAny_bind (wpAny_bind (wpAny_askSetting (wpAny_pure (wpAny_bind (wpAny_mkText (wpAny_bind (wpAny_loadPart D ?_)))))))
 dsimp only
 have c:(!ds.toArray.any (·.key.isStr name)&&ds.toArray.any (·.refKey))=false:=by
  rw[← Array.any_toList,← Array.any_toList];exact hr
 rw[aRefKeyMayBeTheName_at,c];refine wpAny_updatePart D ?_
 have D':(s.heap.update dx (Obj.putName name (PyData.keyHash cx.w.params name) (.str name s.toks) v)).get? dx=some (dictOf (putL name (PyData.keyHash cx.w.params name) (.str name s.toks) v ds) (putN name ds n)):=by
  rw[← putName_dict];exact Heap.get?_update_self _ D (by rw[putName_dict];rfl)
 refine wpAny_bind (wpAny_lookBehind D' (pastItsLine_dict (by rw[List.size_toArray,sizeLine_eq];omega)) ?_)
 exact wpAny_pure h
end
end Mine
end
section
open PySem PySem.W PyProof.Rows Builtin Builtin.ObjectAttr Builtin.Getset_descriptor
namespace Mine
section
variable {cx:Cx} {A:Around} {E:Value→Shared→Prop} {s:Shared} {J:Jm} {H:Hp}
theorem putL_length(name:PySem.Str)(hsh:Int)(key v:Value):∀ ds:List DictEntry,(putL name hsh key v ds).length≤ds.length+1
 | []=>Nat.le_refl _
 | e::r=>by
  unfold putL;split
  ·simp
  ·simp only[List.length_cons];have:=putL_length name hsh key v r;omega
theorem s_setAttr{n:Nm}{v:AV}{o:AV}{va val:Value}{H':Hp}{Q:Unit→Shared→Prop}(hC:CxOk cx)(hK:ClsOk cx)(I:Inv cx J H s.heap)(ra:Rep J s.heap o va)(rv:Rep J s.heap v val)(h:setAttrV H o n v=some H')
  (hQ:∀ s',EPost cx J s .none H' .none s'→Q () s'):wpAny cx.M A (setAttr va ⟨n.toArray⟩ val) Q E s:=by
 unfold setAttrV at h;split at h
 ·rename_i k
  obtain⟨a,hJ,rfl⟩:=ra;split at h
  ·rename_i d hk
   split at h
   ·rename_i es hd
    split at h
    ·rename_i hn
     obtain⟨hz,hok,hn⟩:=hn;cases h;obtain⟨dx,ds,m,hJd,hod,D,nd,hne,IA⟩:=inst_at I hJ hk hd;refine set_plain (I.K hC) IA hK.set ?_
     refine osa_open (s:={ s with toks:=s.toks+1 }) (r:=none) (I.K hC) IA hK.over (by unfold takerIn;rw[hK.no n (mem_attr hn)];rfl) fun b=> ?_
     refine s_storeOwn (s:={ s with toks:=s.toks+1 }) (I.K hC) hK IA ?_ ?_ ?_
     ·have:ds.any (·.refKey)=false:=by
       rw[List.any_eq_false];intro e m;rw[okDict_noref D hok e m];decide
      rw[this,Bool.and_false]
     ·have h1:=putL_length ⟨n.toArray⟩ (PyData.keyHash cx.w.params ⟨n.toArray⟩) (.str ⟨n.toArray⟩ ({ s with toks:=s.toks+1 }:Shared).toks) val ds
      have h2:=D.length;omega
     ·refine hQ _ ?_
      have hsb:Heap.SameBut dx s.heap (s.heap.update dx (Obj.putName ⟨n.toArray⟩ (PyData.keyHash cx.w.params ⟨n.toArray⟩) (.str ⟨n.toArray⟩ ({ s with toks:=s.toks+1 }:Shared).toks) val)):=Heap.SameBut.update ..
      have hg:=Heap.get?_update_self (Obj.putName ⟨n.toArray⟩ (PyData.keyHash cx.w.params ⟨n.toArray⟩) (.str ⟨n.toArray⟩ ({ s with toks:=s.toks+1 }:Shared).toks) val) hod (by rw[putName_dict];rfl)
      rw[putName_dict]at hg;exact EPost.set I hJd hsb (fun S=>⟨_,_,hg,putL_rep (attr_lt n (mem_attr hn)) (rv.mono S) (D.mono S),dput_nodup nd,by rw[← putN_len D,hne];rfl⟩) (by rw[hg];simp) rfl
    ·cases h
   ·cases h
  ·cases h
 ·cases h
theorem s_getMethod{k:Nat}{a:Addr}{x:PySem.Str}{f:Addr}{pl:Sem Bool}{Q:Value × List Value→Shared→Prop}(hC:CxOk cx)(hK:ClsOk cx)(I:Inv cx J H s.heap)(hJ:J[k]? =some a)(h:okInst H k=true)
  (hx:attrNames.contains x.cps.toList=false) (hf:findIn cx.K (.ref cx.C) x=some (some (.ref f))) (ht:isFn cx.K (.ref f)=true) (hQ:Q (.ref f,[.ref a]) s):
  wpAny cx.M A (getMethod (.ref a) x pl) Q E s:=by
 unfold okInst at h;split at h
 ·rename_i d hk
  split at h
  ·rename_i es hd
   obtain⟨dx,ds,m,hJd,hod,D,nd,hne,IA⟩:=inst_at I hJ hk hd;refine method_fn (I.K hC) IA (plainGet_of hK.get).1 (plainGet_of hK.get).2 hf (beq_iff_eq.mp ht) ?_ hQ
   show (lookIn x (dictOf ds m)).map _=_
   rw[lookIn_dict,okDict_none hx D h];rfl
  ·cases h
 ·cases h
theorem new_inv(I:Inv cx J H s.heap):
  Stp J (J++[s.heap.objs.size,s.heap.objs.size+1]) s.heap ((s.heap.push emptyDict).push (instObj cx.C s.heap.objs.size)) noOwn∧
  Inv cx (J++[s.heap.objs.size,s.heap.objs.size+1]) (H++[.dict [],.inst H.length]) ((s.heap.push emptyDict).push (instObj cx.C s.heap.objs.size))∧
  (J++[s.heap.objs.size,s.heap.objs.size+1])[H.length+1]? =some (s.heap.objs.size+1):=by
 have k1:∀ b o,s.heap.get? b=some o→(s.heap.push emptyDict).get? b=some o:=fun b o e=>Heap.get?_push_of_some _ e
 have k2:∀ b o,(s.heap.push emptyDict).get? b=some o→((s.heap.push emptyDict).push (instObj cx.C s.heap.objs.size)).get? b=some o:=fun b o e=>Heap.get?_push_of_some _ e
 have hz:(s.heap.push emptyDict).objs.size=s.heap.objs.size+1:=Heap.size_push ..;have g1:(s.heap.push emptyDict).get? s.heap.objs.size=some emptyDict:=Heap.get?_push_size _ rfl;have g2:((s.heap.push emptyDict).push (instObj cx.C s.heap.objs.size)).get? (s.heap.objs.size+1)=some (instObj cx.C s.heap.objs.size):=by rw[← hz];exact Heap.get?_push_size _ rfl
 have S1:Stp J (J++[s.heap.objs.size]) s.heap (s.heap.push emptyDict) noOwn:=Inv.newStp (fresh_size _) k1;have I1:Inv cx (J++[s.heap.objs.size]) (H++[.dict []]) (s.heap.push emptyDict):=I.push (fresh_size _) I.size_ne k1 ⟨[],0,g1,.nil,List.Pairwise.nil,rfl⟩;have f2:(s.heap.push emptyDict).get? (s.heap.objs.size+1)=none:=by rw[← hz];exact fresh_size _
 have e:J++[s.heap.objs.size,s.heap.objs.size+1]=(J++[s.heap.objs.size])++[s.heap.objs.size+1]:=by simp
 have S2:Stp (J++[s.heap.objs.size]) (J++[s.heap.objs.size]++[s.heap.objs.size+1]) (s.heap.push emptyDict) ((s.heap.push emptyDict).push (instObj cx.C s.heap.objs.size)) noOwn:=Inv.newStp f2 k2;have n2:s.heap.objs.size+1≠sysModules:=by rw[← hz];exact I1.size_ne
 have l0:(J++[s.heap.objs.size])[H.length]? =some s.heap.objs.size:=getJ_last I.rep.len;have I2:=I1.push (o:= .inst H.length) (a:=s.heap.objs.size+1) f2 n2 k2 ⟨s.heap.objs.size,prefix_get (List.prefix_append _ _) l0,g2⟩;have l1:=getJ_last (a:=s.heap.objs.size+1) I1.rep.len;rw[e];refine⟨S1.trans S2,?_,?_⟩
 ·have:H++[AO.dict [],.inst H.length]=H++[.dict []]++[.inst H.length]:=by simp
  rw[this];exact I2
 ·simpa using l1
theorem s_new{vals:List Value}{fI:Addr}{R:Result→Shared→Prop}(hC:CxOk cx)(I:Inv cx J H s.heap)(hm:makesIn cx.K cx.C=true)
  (hi:findIn cx.K (.ref cx.C) "__init__" =some (some (.ref fI))) (hf:typeIn cx.K (.ref fI)=some (.type "function"))
  (h:codeAny cx.M (A.under (.builtin "type.__call__" ⟨.ref cx.C::vals,[]⟩)) (.call (.ref fI) ⟨.ref (s.heap.objs.size+1)::vals,[]⟩) (InitBack (s.heap.objs.size+1) R)
   { s with heap:=(s.heap.push emptyDict).push (instObj cx.C s.heap.objs.size) }):
  codeAny cx.M A (.call (.ref cx.C) ⟨vals,[]⟩) R s:=by
 obtain⟨hh,g,d,t,os⟩:=s;exact make_core (makes_of (I.K hC) hm) (looks_findIn (I.K hC) hi) (fun self=>bind_fn (I.K hC) self hf) (.inl rfl) h
end
end Mine
end
section
open PySem PySem.W PyProof.Rows
namespace Mine
theorem sub_tuple_set':isSubtype (.type "tuple") (.type "set")=pure false:=by rw[isSubtype_type];kernel_rfl
theorem sub_tuple_frozenset':isSubtype (.type "tuple") (.type "frozenset")=pure false:=by rw[isSubtype_type];kernel_rfl
section
variable {prog:Program} {w:World} {A:Around} {E:Value→Shared→Prop} {s:Shared}
set_option maxHeartbeats 3200000 in
theorem set_of_tuple{l:Addr}{items:Array Value}{ns:List Int}{n₀:Nat}{Q:Value→Shared→Prop}
  (hh:A.handled=none) (hol:s.heap.get? l=some (tupObj items n₀)) (hi:IntsAre items.toList ns) (hb:items.size+1<scanBound)
  (h:∀ (h':Heap) (tk:Nat),h'.SetOf (PySem.intKind prog w) s.heap.objs.size (fun k'=>(firstMet (fun i=>ns.getD i 0) items.size).any (· == k')) (firstMet (fun i=>ns.getD i 0) items.size).length→
   (∀ b o,b<s.heap.objs.size→s.heap.get? b=some o→h'.get? b=some o)→Q (.ref s.heap.objs.size) { s with heap:=h',toks:=tk }):
  wpAny (model prog w) A (call (.type "set") [.ref l]) Q E s:=by
 obtain⟨c,tl,hmro⟩:=PySem.F.called_set.mro;have hmade:=PySem.F.called_set.made;have hsub:=PySem.F.called_set.sub;refine wpAny_call (codeAny_of_tree ?_)
 show wpAny _ _ (callAny (.type "set") _) _ _ _
 refine wpAny_pure ⟨Code.quiet_builtin _ (by decide+kernel),codeAny_builtin PySem.F.entry_type_call ?_⟩
 rw[Around.under_plain (weight_type_call_type "set" [.ref l] []) rfl];have h1:=PySem.F.called_set.notType;have h2:=PySem.F.called_set.canCreate;have hct:=PySem.F.typeCall_set_1 (.ref l);repeat (any_goals (first | assumption | wp_step))
 refine codeAny_mono (code_set_new_1 (.ref l) (E:=E) (Q₁:=fun obj s₁=>∃ led:Bool,obj= .ref s.heap.objs.size∧s₁={ s with heap:=s.heap.push { cls:= .type "set",dict:=none,data:= .set #[] 0 (.fresh 0 0 led) } }) fun led=>⟨led,rfl,rfl⟩) fun r s₁ hr=> ?_
 cases r with
 | error e=>exact hr
 | ok fl=>
  cases fl with
  | ret obj=>
   obtain⟨led,rfl,rfl⟩:=hr;have hS:(s.heap.push { cls:= .type "set",dict:=none,data:= .set #[] 0 (.fresh 0 0 led) }).get? s.heap.objs.size=some { cls:= .type "set",dict:=none,data:= .set #[] 0 (.fresh 0 0 led) }:=Heap.get?_push_size _ rfl;have hT:Shared.TypeIs { s with heap:=s.heap.push { cls:= .type "set",dict:=none,data:= .set #[] 0 (.fresh 0 0 led) } } (.ref s.heap.objs.size) "set" :=⟨_,hS,rfl⟩
   have hli:=PySem.F.called_set.init.lookup;have hbi:=PySem.F.called_set.init.bind (.ref s.heap.objs.size);repeat (any_goals (first | assumption | wp_step))
   refine codeAny_mono (codeAny_call_builtin (R:=wants (fun r s₂=>r= .none∧∃ h' tk,s₂={ s with heap:=h',toks:=tk }∧
     h'.SetOf (PySem.intKind prog w) s.heap.objs.size (fun k'=>(firstMet (fun i=>ns.getD i 0) items.size).any (· == k')) (firstMet (fun i=>ns.getD i 0) items.size).length∧
     (∀ b o,b<s.heap.objs.size→s.heap.get? b=some o→h'.get? b=some o)) E) PySem.F.called_set.init.plain PySem.F.entry_set_init (check_set_init_1 hT ?_)) fun r₂ s₂ hr₂=> ?_
   ·have hol':(s.heap.push { cls:= .type "set",dict:=none,data:= .set #[] 0 (.fresh 0 0 led) }).get? l=some (tupObj items n₀):=Heap.get?_push_of_some _ hol
    have hsls:=sub_tuple_set';have hslf:=sub_tuple_frozenset';have hne:(Value.type "tuple" == Value.type "dict")=false:=by decide
    have hl1:(s.heap.push { cls:= .type "set",dict:=none,data:= .set #[] 0 (.fresh 0 0 led) }).IsTuple l items:=⟨_,hol',rfl,n₀,rfl⟩;unfold Builtin.«set.__init__» noKeywords Builtin.Frozenset.updateFrom;generalize hPI:pyIter=PI;wp_walk
    subst hPI;refine wpAny_pyIter_tuple hl1 ?_
    refine wpAny_bind (wpAny_runValue ?_)
    have hlS:l<s.heap.objs.size:=Heap.lt_size hol;have hh3:A.in1.in1.in1.handled=none:=by simp[hh]
    have hneI:l≠(s.heap.push { cls:= .type "set",dict:=none,data:= .set #[] 0 (.fresh 0 0 led) }).objs.size:=by
     rw[Heap.size_push];exact Nat.ne_of_lt (Nat.lt_succ_of_lt hlS)
    have hSf:s.heap.objs.size∉[(s.heap.push { cls:= .type "set",dict:=none,data:= .set #[] 0 (.fresh 0 0 led) }).objs.size,l]:=by
     rw[Heap.size_push];simp only[List.mem_cons,List.mem_singleton,List.not_mem_nil,or_false,not_or];exact⟨Nat.ne_of_lt (Nat.lt_succ_self _),Nat.ne_of_gt hlS⟩
    have hval:∀ (i:Nat) (v:Value),items[i]? =some v→∃ t,v= .int ((fun i=>ns.getD i 0) i) t:=fun i v hv=>
     IntsAre.int_at hi i v (by rw[Array.getElem?_toList];exact hv)
    refine codeAny_set_update_loopS ((Walks.tuple hh3 _ l hneI items).toS) s.heap.objs.size
     hSf (fun i=>ns.getD i 0) hval hb (items.size - 0) 0 _ (by omega) (Nat.zero_le _)
     ⟨⟨_,Heap.get?_push_size _ rfl,rfl,rfl⟩,(hl1.push _)⟩ ?hS0 ?hR
    case hS0=>
     have hget:((s.heap.push { cls:= .type "set",dict:=none,data:= .set #[] 0 (.fresh 0 0 led) }).push { cls:= .type "tuple_iterator",data:= .fields #[.ref l,.int 0 0] }).get? s.heap.objs.size
       =some { cls:= .type "set",dict:=none,data:= .set #[] 0 (.fresh 0 0 led) }:=Heap.get?_push_of_some _ hS
     exact SetOf_congr ((setObjOf_fresh (knd:=PySem.intKind prog w) led).setOf hget (by unfold scanBound;omega)) (fun _=>rfl) rfl
    case hR=>
     intro s' hm hS';obtain⟨h',g',d',tk',os'⟩:=s';have eg:g'=s.gens:=hm.gens;have ed:d'=s.drawn:=hm.drawn;have eo:os'=s.os:=hm.os;subst eg;subst ed;subst eo;show wpAny _ _ _ _ _ _
     refine wpAny_pure ?_
     show wpAny _ _ (ret Value.none) _ _ _
     refine wpAny_pure ⟨rfl,h',tk',rfl,hS',fun b o hb e=> ?_⟩
     have hb1:b≠s.heap.objs.size:=Nat.ne_of_lt hb;have hb2:b≠(s.heap.push { cls:= .type "set",dict:=none,data:= .set #[] 0 (.fresh 0 0 led) }).objs.size:=by
      rw[Heap.size_push];exact Nat.ne_of_lt (Nat.lt_succ_of_lt hb)
     exact hm.heap b o (by simp only[List.mem_cons,List.mem_singleton,List.not_mem_nil,or_false,not_or];exact⟨hb1,hb2⟩) (Heap.get?_push_of_some _ (Heap.get?_push_of_some _ e))
   ·cases r₂ with
    | error e=>exact hr₂
    | ok fl₂=>
     cases fl₂ with
     | ret r=>
      obtain⟨rfl,h',tk,rfl,hS',hk'⟩:=hr₂;repeat (any_goals (first | assumption | wp_step))
      exact h _ _ hS' hk'
     | _=>exact hr₂.elim
  | _=>exact hr.elim
end
end Mine
end
section
open PySem PySem.W PyProof.Rows PySem.Calls
namespace Mine
def AOk(A:Around)(n:Nat):Prop:=A.handled=none∧A.depth+3 * n+12<recursionLimit∧A.units+20 * n+220<cLine
def AOkC(A:Around)(n:Nat):Prop:=A.handled=none∧A.depth+3 * n+10<recursionLimit∧A.units+20 * n+210<cLine
theorem AOk.c{A:Around}{n:Nat}(h:AOk A n):AOkC A n:=⟨h.1,by have:=h.2.1;omega,by have:=h.2.2;omega⟩
theorem AOk.hh{A:Around}{n:Nat}(h:AOk A n):A.handled=none:=h.1
theorem AOk.hu{A:Around}{n:Nat}(h:AOk A n):A.units+100<cLine:=by have:=h.2.2;omega
def EAddr(env:Env)(a:Addr):Prop:=a=env.locals∨∃ x,(x,a)∈env.cells
def VarIs(env:Env)(h:Heap)(x:PySem.Str)(val:Value):Prop:=
 (env.kindOf x=some .local∧∃ mm,h.Ns env.locals mm∧mm x=some val)∨
 ((env.kindOf x=some .cell∨env.kindOf x=some .free)∧∃ c,env.cells.lookup x=some c∧h.IsCell c (some val))
def VarsOk(env:Env)(J:Jm)(h:Heap)(xs:List PySem.Str)(m:Loc):Prop:=
 ∀ (i:Nat) (x:PySem.Str) (v:AV),xs[i]? =some x→m[i]? =some (some v)→∃ val,Rep J h v val∧VarIs env h x val
def isFree(env:Env)(x:PySem.Str):Prop:=env.kindOf x=some .cell∨env.kindOf x=some .free
def FreeOk(env:Env)(cs:List PySem.Str)(J:Jm)(h:Heap)(xs:List PySem.Str)(m:Loc):Prop:=
 ∀ (i:Nat) (x:PySem.Str) (v:AV),xs[i]? =some x→(cs≠[]→isFree env x)→m[i]? =some (some v)→∃ val,Rep J h v val∧VarIs env h x val
structure Ctx(cx:Cx)(env:Env)(fs cs:List PySem.Str)(m c:Loc)(J:Jm)(H:Hp)(h:Heap):Prop where
 inv:Inv cx J H h
 fn:env.scope.kind= .function
 gl:env.globals=mainGlobals
 bi:env.builtins=builtinsNs
 out:∀ a,EAddr env a→a∉J∧h.get? a≠none∧cx.hb.get? a=none
 fv:FreeOk env cs J h fs m
 cv:VarsOk env J h cs c
 len:c.length=cs.length
 cel:∀ x,isFree env x→∃ a,env.cells.lookup x=some a
theorem Stp.kept{J J':Jm}{h h':Heap}(S:Stp J J' h h' noOwn){a:Addr}(hJ:a∉J){o:Obj}(e:h.get? a=some o):h'.get? a=some o:=S.keep a o e hJ fun x=>x
theorem VarIs.step{env:Env}{J J':Jm}{h h':Heap}{x:PySem.Str}{val:Value}(S:Stp J J' h h' noOwn)(out:∀ a,EAddr env a→a∉J)(v:VarIs env h x val):VarIs env h' x val:=by
 rcases v with⟨k,mm,⟨o,es,ep,e,r⟩,q⟩ | ⟨k,c,l,o,e,d⟩
 ·exact .inl ⟨k,mm,⟨o,es,ep,S.kept (out _ (.inl rfl)) e,r⟩,q⟩
 ·exact .inr ⟨k,c,l,o,S.kept (out _ (.inr ⟨x,mem_of_lookup l⟩)) e,d⟩
theorem VarsOk.step{env:Env}{J J':Jm}{h h':Heap}{xs:List PySem.Str}{m:Loc}(S:Stp J J' h h' noOwn)(out:∀ a,EAddr env a→a∉J)(v:VarsOk env J h xs m):VarsOk env J' h' xs m:=
 fun i x w hx hm=>let ⟨val,r,q⟩:=v i x w hx hm;⟨val,r.mono S,q.step S out⟩
theorem FreeOk.step{env:Env}{cs:List PySem.Str}{J J':Jm}{h h':Heap}{xs:List PySem.Str}{m:Loc}(S:Stp J J' h h' noOwn)(out:∀ a,EAddr env a→a∉J)(v:FreeOk env cs J h xs m):FreeOk env cs J' h' xs m:=
 fun i x w hx hf hm=>let ⟨val,r,q⟩:=v i x w hx hf hm;⟨val,r.mono S,q.step S out⟩
theorem Ctx.step{cx:Cx}{env:Env}{fs cs:List PySem.Str}{m c:Loc}{J J':Jm}{H H':Hp}{h h':Heap}(X:Ctx cx env fs cs m c J H h)(S:Stp J J' h h' noOwn)(I:Inv cx J' H' h'):Ctx cx env fs cs m c J' H' h' where
 inv:=I
 fn:=X.fn
 gl:=X.gl
 bi:=X.bi
 out:=fun a e=>⟨fun q=>(S.new a q).elim (X.out a e).1 (X.out a e).2.1,S.alive a (X.out a e).2.1,(X.out a e).2.2⟩
 fv:=X.fv.step S fun a e=>(X.out a e).1
 cv:=X.cv.step S fun a e=>(X.out a e).1
 len:=X.len
 cel:=X.cel
structure Facts(cx:Cx)(fa:Nat→Addr)(gFns gMeths:List (PySem.Str × Nat))(gInts:List (PySem.Str × Int))(gBis:List (PySem.Str × Value)):Prop where
 ok:CxOk cx
 cls:ClsOk cx
 fns:∀ x f,gFns.lookup x=some f→cx.mg x=some (.ref (fa f))∧keepIn cx.K (.ref (fa f))=true
 meths:∀ x f,gMeths.lookup x=some f→attrNames.contains x.cps.toList=false∧findIn cx.K (.ref cx.C) x=some (some (.ref (fa f)))∧isFn cx.K (.ref (fa f))=true∧keepIn cx.K (.ref (fa f))=true
 nums:∀ x i,gInts.lookup x=some i→∃ t,cx.mg x=some (.int i t)
 bis:∀ x v,gBis.lookup x=some v→cx.mg x=none∧bootBuiltins x=some v∧x≠ "__name__"
 net:cx.mg "Netlist" =some (.ref cx.C)∧keepIn cx.K (.ref cx.C)=true
 makes:makesIn cx.K cx.C=true
 init:findIn cx.K (.ref cx.C) "__init__" =some (some (.ref (fa 0)))∧typeIn cx.K (.ref (fa 0))=some (.type "function")
def CallOk(cx:Cx)(fa:Nat→Addr)(cl:Caller)(n:Nat):Prop:=
 ∀ (f:Nat) (vs:List AV) (H:Hp) (v:AV) (H':Hp),cl f vs H=some (v,H')→∀ (A:Around) (s:Shared) (J:Jm) (vals:List Value) (R:Result→Shared→Prop),AOkC A n→Inv cx J H s.heap→RepL J s.heap vs vals→
  (∀ val s',EPost cx J s v H' val s'→R (.ok (.ret val)) s')→codeAny cx.M A (.call (.ref (fa f)) ⟨vals,[]⟩) R s
def SE(cx:Cx)(cl:Caller)(n:Nat)(sc:Scope)(fs cs:List PySem.Str)(e:E)(x:Expr):Prop:=
 ∀ (env:Env) (A:Around) (s:Shared) (J:Jm) (H:Hp) (m c:Loc) (v:AV) (H':Hp) (Q:Value→Shared→Prop) (E':Value→Shared→Prop),env.scope=sc→AOk A n→Ctx cx env fs cs m c J H s.heap→
  evE cl e m c H=some (v,H')→(∀ val s',EPost cx J s v H' val s'→Q val s')→wpAny cx.M A (eval x env) Q E' s
def ST(cx:Cx)(cl:Caller)(n:Nat)(sc:Scope)(fs cs:List PySem.Str)(e:E)(x:Expr):Prop:=
 ∀ (env:Env) (A:Around) (s:Shared) (J:Jm) (H:Hp) (m c:Loc) (v:AV) (H':Hp) (b:Bool) (Q:Bool→Shared→Prop) (E':Value→Shared→Prop),env.scope=sc→AOk A n→Ctx cx env fs cs m c J H s.heap→
  evE cl e m c H=some (v,H')→truthy H' v=some b→(∀ s',EPost cx J s .none H' .none s'→Q b s')→wpAny cx.M A (isTrue x env (eval x env)) Q E' s
def LPost(cx:Cx)(J:Jm)(s:Shared)(vs:List AV)(H':Hp)(vals:List Value)(s':Shared):Prop:=
 (∃ h tk,s'={ s with heap:=h,toks:=tk })∧∃ J',Stp J J' s.heap s'.heap noOwn∧Inv cx J' H' s'.heap∧RepL J' s'.heap vs vals
def SL(cx:Cx)(cl:Caller)(n:Nat)(sc:Scope)(fs cs:List PySem.Str)(es:List E)(xs:List Expr):Prop:=
 ∀ (env:Env) (A:Around) (s:Shared) (J:Jm) (H:Hp) (m c:Loc) (vs:List AV) (H':Hp) (pos:Pos) (Q:List Value→Shared→Prop) (E':Value→Shared→Prop),env.scope=sc→AOk A n→Ctx cx env fs cs m c J H s.heap→
  evL cl es m c H=some (vs,H')→(∀ vals s',LPost cx J s vs H' vals s'→Q vals s')→wpAny cx.M A (spliced (backTo pos (starEach xs env))) Q E' s
section
variable {cx:Cx} {cl:Caller} {n:Nat} {sc:Scope} {fs cs:List PySem.Str} {A:Around} {E':Value→Shared→Prop} {s:Shared} {J:Jm} {H:Hp} {env:Env} {m c:Loc}
theorem Ctx.globals(hC:CxOk cx){h:Heap}(X:Ctx cx env fs cs m c J H h):h.Ns env.globals cx.mg:=by rw[X.gl];exact hC.T.g.keeps X.inv.base
theorem Ctx.builtins(hC:CxOk cx){h:Heap}(X:Ctx cx env fs cs m c J H h):h.Ns env.builtins cx.mb:=by rw[X.bi];exact hC.T.b.keeps X.inv.base
theorem r_global(hC:CxOk cx){x:PySem.Str}{pos:Pos}{v:Value}{Q:Value→Shared→Prop}(X:Ctx cx env fs cs m c J H s.heap)(hx:env.kindOf x=some .globalImplicit)(hv:cx.mg x=some v)(hd:(x == ("__debug__" :PySem.Str))=false)(h:Q v s):
  wpAny cx.M A (eval (.Name x pos) env) Q E' s:=by
 with_reducible refine Name_function_global X.fn hx ?_ hd
 exact loadGlobal_global (X.globals hC) hv h
theorem r_builtin(hC:CxOk cx){x:PySem.Str}{pos:Pos}{v:Value}{Q:Value→Shared→Prop}(X:Ctx cx env fs cs m c J H s.heap)(hx:env.kindOf x=some .globalImplicit)(hm:cx.mg x=none)(hv:bootBuiltins x=some v)(hn:x≠ "__name__")(hd:(x == ("__debug__" :PySem.Str))=false)(h:Q v s):
  wpAny cx.M A (eval (.Name x pos) env) Q E' s:=by
 with_reducible refine Name_function_global X.fn hx ?_ hd
 exact loadGlobal_builtin (X.globals hC) hm (X.builtins hC) ((hC.T.builtins x hn).trans hv) h
theorem r_var{x:PySem.Str}{pos:Pos}{v:Value}{Q:Value→Shared→Prop}(hk:env.scope.kind= .function)(hv:VarIs env s.heap x v)(hd:(x == ("__debug__" :PySem.Str))=false)(hd2:(x == ("__classdict__" :PySem.Str))=false)(h:Q v s):
  wpAny cx.M A (eval (.Name x pos) env) Q E' s:=by
 refine wpAny_Name ?_ hd
 rcases hv with⟨k,mm,N,q⟩ | ⟨k | k,c,l,ic⟩
 ·exact wpAny_loadName_local hk k N q h
 ·exact wpAny_loadName_cell hk k l ic h
 ·exact wpAny_loadName_free hk k l ic h hd2
theorem SE.then{a b:E}{xa xb:Expr}(ha:SE cx cl n sc fs cs a xa)(hb:SE cx cl n sc fs cs b xb){x y:AV}{H₁ H₂:Hp}{Q:Value→Value→Shared→Prop}(hs:env.scope=sc)(hA:AOk A n)(X:Ctx cx env fs cs m c J H s.heap)
  (e1:evE cl a m c H=some (x,H₁)) (e2:evE cl b m c H₁=some (y,H₂))
  (h:∀ va vb s' J',(∃ h tk,s'={ s with heap:=h,toks:=tk })→Stp J J' s.heap s'.heap noOwn→Ctx cx env fs cs m c J' H₂ s'.heap→Rep J' s'.heap x va→Rep J' s'.heap y vb→Q va vb s'):
  wpAny cx.M A (eval xa env) (fun va s₁=>wpAny cx.M A (eval xb env) (Q va) E' s₁) E' s:=by
 refine ha env A s J H m c x H₁ _ _ hs hA X e1 fun va s₁ p₁=> ?_
 obtain⟨sm₁,J₁,S₁,I₁,r₁⟩:=p₁;refine hb env A s₁ J₁ H₁ m c y H₂ _ _ hs hA (X.step S₁ I₁) e2 fun vb s₂ p₂=> ?_
 obtain⟨sm₂,J₂,S₂,I₂,r₂⟩:=p₂;exact h va vb s₂ J₂ (same_trans sm₁ sm₂) (S₁.trans S₂) ((X.step S₁ I₁).step S₂ I₂) (r₁.mono S₂) r₂
theorem SE.one{a:E}{xa:Expr}(ha:SE cx cl n sc fs cs a xa){x:AV}{H₁:Hp}{Q:Value→Shared→Prop}(hs:env.scope=sc)(hA:AOk A n)(X:Ctx cx env fs cs m c J H s.heap)(e1:evE cl a m c H=some (x,H₁))
  (h:∀ va s' J',(∃ h tk,s'={ s with heap:=h,toks:=tk })→Stp J J' s.heap s'.heap noOwn→Ctx cx env fs cs m c J' H₁ s'.heap→Rep J' s'.heap x va→Q va s'):
  wpAny cx.M A (eval xa env) Q E' s:=by
 refine ha env A s J H m c x H₁ _ _ hs hA X e1 fun va s₁ p₁=> ?_
 obtain⟨sm₁,J₁,S₁,I₁,r₁⟩:=p₁;exact h va s₁ J₁ sm₁ S₁ (X.step S₁ I₁) r₁
theorem SL.nil:SL cx cl n sc fs cs [] []:=by
 intro env A s J H m c vs H' pos Q E' hs hA X e h;unfold evL at e;cases e;exact wpAny_items_nil (h [] s ⟨⟨_,_,rfl⟩,J,Stp.refl _ _ _,X.inv,rfl⟩)
def notStar:Expr→Bool
 | .Starred _ _=>false
 | _=>true
theorem starEach_one{e:Expr}{rest:List Expr}(h:notStar e=true):starEach (e::rest) env=(false,eval e env)::starEach rest env:=by
 cases e<;>first | rfl | cases h
theorem SL.cons{e:E}{x:Expr}{es:List E}{xs:List Expr}(h1:SE cx cl n sc fs cs e x)(h2:SL cx cl n sc fs cs es xs)(hx:notStar x=true):SL cx cl n sc fs cs (e::es) (x::xs):=by
 intro env A s J H m c vs H' pos Q E' hs hA X e0 h;unfold evL at e0;simp only[Option.bind_eq_bind,Option.bind_eq_some_iff,Prod.exists]at e0;obtain⟨v,H1,e1,vs',H2,e2,e3⟩:=e0;cases e3;refine wpAny_items_cons ?_ (starEach_one hx)
 refine h1.one hs hA X e1 fun va s₁ J₁ sm₁ S₁ X₁ r₁=> ?_
 refine h2 env A s₁ J₁ H1 m c vs' H' pos _ _ hs hA X₁ e2 fun vals s₂ p=> ?_
 obtain⟨sm₂,J₂,S₂,I₂,r₂⟩:=p;exact h _ _ ⟨same_trans sm₁ sm₂,J₂,S₁.trans S₂,I₂,va,vals,rfl,r₁.mono S₂,r₂⟩
theorem evL_length:∀ {es:List E} {m c:Loc} {H:Hp} {vs:List AV} {H':Hp},evL cl es m c H=some (vs,H')→vs.length=es.length
 | [],_,_,_,_,_,e=>by unfold evL at e;cases e;rfl
 | e::es,_,_,_,_,_,e0=>by
  unfold evL at e0;simp only[Option.bind_eq_bind,Option.bind_eq_some_iff,Prod.exists]at e0;obtain⟨v,H1,e1,vs',H2,e2,e3⟩:=e0;cases e3;simp[evL_length e2]
theorem SE.bin{o:Op}{a b:E}{xa xb:Expr}{pos:Pos}(ha:SE cx cl n sc fs cs a xa)(hb:SE cx cl n sc fs cs b xb):SE cx cl n sc fs cs (.bin o a b) (.BinOp xa (opr o) xb pos):=by
 intro env A s J H m c v H' Q E' hs hA X e h;unfold evE at e;simp only[Option.bind_eq_bind,Option.bind_eq_some_iff,Prod.exists]at e;obtain⟨x,H1,e1,y,H2,e2,e3⟩:=e;with_reducible refine wpAny_BinOp ?_
 refine ha.then hb hs hA X e1 e2 fun va vb s' J' sm S X' ra rb=> ?_
 refine wpAny_mono (s_binV X'.inv ra rb e3) (fun val s'' p=>h val s'' (EPost.trans sm S p)) fun _ _ z=>z
theorem SE.tup{es:List E}{xs:List Expr}{k:Nat}{pos:Pos}(hl:SL cx cl n sc fs cs es xs)(hz:es.length≤100):SE cx cl n sc fs cs (.tup es) (.Tuple xs k pos):=by
 intro env A s J H m c v H' Q E' hs hA X e h;unfold evE at e;simp only[Option.bind_eq_bind,Option.bind_eq_some_iff,Prod.exists]at e;obtain⟨vs,H1,e1,e3⟩:=e;cases e3;with_reducible refine wpAny_Tuple ?_
 refine hl env A s J H m c vs _ pos _ _ hs hA X e1 fun vals s' p=> ?_
 obtain⟨sm,J',S,I,r⟩:=p;have h1:=r.length;have h2:=evL_length e1;have z2:=zSize;refine⟨by omega,h _ _ ?_⟩
 have kk:∀ b o,s'.heap.get? b=some o→(s'.heap.push { cls:= .type "tuple",data:= .seq vals.toArray }).get? b=some o:=fun b o e=>Heap.get?_push_of_some _ e
 refine EPost.trans sm S ⟨⟨_,s'.toks,rfl⟩,J',Stp.of_keeps kk,I.keeps kk,s'.heap.objs.size,vals.toArray,0,rfl,Heap.get?_push_size _ rfl,?_,?_⟩
 ·exact r.mono (Stp.of_keeps (own:=noOwn) kk)
 ·rw[List.size_toArray];omega
theorem SE.list{es:List E}{xs:List Expr}{pos:Pos}(hl:SL cx cl n sc fs cs es xs)(hz:es.length≤100):SE cx cl n sc fs cs (.list es) (.List xs pos):=by
 intro env A s J H m c v H' Q E' hs hA X e h;unfold evE at e;simp only[Option.bind_eq_bind,Option.bind_eq_some_iff,Prod.exists]at e;obtain⟨vs,H1,e1,e3⟩:=e;cases e3;with_reducible refine wpAny_List ?_
 refine hl env A s J H m c vs _ pos _ _ hs hA X e1 fun vals s' p=> ?_
 obtain⟨sm,J',S,I,r⟩:=p;have h1:=r.length;have h2:=evL_length e1;have z2:=zSize;refine⟨by omega,h _ _ ?_⟩
 have kk:∀ b o,s'.heap.get? b=some o→(s'.heap.push { cls:= .type "list",data:= .seq vals.toArray }).get? b=some o:=fun b o e=>Heap.get?_push_of_some _ e
 refine EPost.trans sm S (EPost.push (tk:=s'.toks) I kk fun S'=>⟨vals.toArray,0,Heap.get?_push_size _ rfl,?_,?_⟩)
 ·exact r.mono S'
 ·rw[List.size_toArray];omega
def constIs:AV→Const→Bool
 | .none,.none=>true
 | .bool a,.bool b=>a == b
 | .int a,.int b=>a == b
 | .str a,.str b=>decide (b.cps.toList=a)&&a.all (· <1114112)
 | _,_=>false
theorem SE.const{v₀:AV}{k:Const}{j:Nat}{pos:Pos}(hk:constIs v₀ k=true):SE cx cl n sc fs cs (.const v₀) (.Constant k j pos):=by
 intro env A s J H m c v H' Q E' hs hA X e h;unfold evE at e;cases e;unfold constIs at hk;split at hk
 ·with_reducible refine wpAny_Constant_none ?_
  exact h _ _ (EPost.pure (tk:=s.toks) X.inv rfl)
 ·rw[beq_iff_eq]at hk;subst hk
  with_reducible refine wpAny_Constant_bool ?_
  exact h _ _ (EPost.pure (tk:=s.toks) X.inv rfl)
 ·rw[beq_iff_eq]at hk;subst hk
  with_reducible refine wpAny_Constant_int ?_
  exact h _ _ (EPost.pure X.inv ⟨_,rfl⟩)
 ·rename_i a b
  simp only[Bool.and_eq_true,decide_eq_true_eq,List.all_eq_true]at hk;obtain⟨q,hc⟩:=hk;have hb:b=⟨a.toArray⟩:=by cases b;simp only at q;subst q;simp
  subst hb;with_reducible refine wpAny_Constant_str ?_
  exact h _ _ (EPost.pure X.inv ⟨hc,_,rfl⟩)
 ·cases hk
end
end Mine
end
section
open PySem PySem.W PyProof.Rows PySem.Calls
namespace Mine
mutual
theorem Rep.ext{J J':Jm}{h h':Heap}(p:J <+: J')(t:∀ a its n,h.get? a=some (tupObj its n)→h'.get? a=some (tupObj its n)):∀ {v:AV} {val:Value},Rep J h v val→Rep J' h' v val
 | .none,_,e=>e
 | .bool _,_,e=>e
 | .int _,_,e=>e
 | .str _,_,e=>e
 | .tup _,_,⟨a,its,n,e,ho,r,z⟩=>⟨a,its,n,e,t a its n ho,RepL.ext p t r,z⟩
 | .ref _,_,⟨a,e,q⟩=>⟨a,prefix_get p e,q⟩
theorem RepL.ext{J J':Jm}{h h':Heap}(p:J <+: J')(t:∀ a its n,h.get? a=some (tupObj its n)→h'.get? a=some (tupObj its n)):∀ {vs:List AV} {vals:List Value},RepL J h vs vals→RepL J' h' vs vals
 | [],_,e=>e
 | _::_,_,⟨y,ys,e,r,rs⟩=>⟨y,ys,e,Rep.ext p t r,RepL.ext p t rs⟩
end
theorem DRep.ext{w:World}{J J':Jm}{h h':Heap}(p:J <+: J')(t:∀ a its n,h.get? a=some (tupObj its n)→h'.get? a=some (tupObj its n)):∀ {es ds},DRep w J h es ds→DRep w J' h' es ds
 | _,_,.nil=> .nil
 | _,_,.cons hk rk rv hh r=> .cons hk (rk.ext p t) (rv.ext p t) hh (r.ext p t)
theorem ORep.ext{w:World}{C:Addr}{J J':Jm}{h h':Heap}(p:J <+: J')(t:∀ a its n,h.get? a=some (tupObj its n)→h'.get? a=some (tupObj its n)){a:Addr}{o:AO}(e:∀ ob,h.get? a=some ob→h'.get? a=some ob)(r:ORep w C J h a o):ORep w C J' h' a o:=by
 cases o with
 | list vs=>obtain ⟨its,n,q,rl,z⟩:=r;exact⟨its,n,e _ q,rl.ext p t,z⟩
 | dict es=>obtain ⟨ds,n,q,rl,nd⟩:=r;exact⟨ds,n,e _ q,rl.ext p t,nd⟩
 | inst d=>obtain ⟨dx,q,rl⟩:=r;exact⟨dx,prefix_get p q,e _ rl⟩
theorem Inv.adopt{cx:Cx}{J:Jm}{H:Hp}{h:Heap}{a:Addr}{o:AO}(I:Inv cx J H h)(hJ:a∉J)(hb:cx.hb.get? a=none)(hsy:a≠sysModules)
  (r:ORep cx.w cx.C (J++[a]) h a o):Inv cx (J++[a]) (H++[o]) h:=by
 have P:J <+: J++[a]:=List.prefix_append _ _;refine⟨⟨by simp[I.rep.len],?_,fun i o' b e q=> ?_⟩,I.base,fun b hb'=> ?_,I.stat,fun b hb'=>(List.mem_append.mp hb').elim (I.sys b) (fun q=>by rw[List.mem_singleton.mp q];exact hsy)⟩
 ·refine List.nodup_append.mpr ⟨I.rep.nodup,by simp,?_⟩
  intro x hx y hy;rw[List.mem_singleton.mp hy];rintro rfl
  exact hJ hx
 ·by_cases hi:i<H.length
  ·rw[List.getElem?_append_left hi]at e
   have hi':i<J.length:=by rw[I.rep.len];exact hi
   rw[List.getElem?_append_left hi']at q;exact (I.rep.obj i o' b e q).ext P (fun _ _ _ z=>z) (fun ob z=>z)
  ·have hlt:=(List.getElem?_eq_some_iff.mp e).1
   rw[List.length_append,List.length_singleton]at hlt;have hii:i=H.length:=by omega
   subst hii;rw[List.getElem?_append_right (Nat.le_refl _),Nat.sub_self]at e;rw[← I.rep.len,List.getElem?_append_right (Nat.le_refl _),Nat.sub_self]at q;simp only[List.getElem?_cons_zero,Option.some.injEq]at e q;subst e q;exact r
 ·rcases List.mem_append.mp hb' with q | q
  ·exact I.above b q
  ·rw[List.mem_singleton.mp q];exact hb
theorem Inv.own{cx:Cx}{J:Jm}{H:Hp}{h h':Heap}{a:Addr}(I:Inv cx J H h)(hs:Heap.SameBut a h h')(hJ:a∉J)(hb:cx.hb.get? a=none)(ht:∀ its n,h.get? a≠some (tupObj its n)):Inv cx J H h':=by
 have T:∀ b its n,h.get? b=some (tupObj its n)→h'.get? b=some (tupObj its n):=fun b its n e=>(hs.2 b fun q=>ht its n (q ▸ e)).trans e
 refine⟨⟨I.rep.len,I.rep.nodup,fun i o b e q=> ?_⟩,fun b o e=>(hs.2 b fun q=>by rw[← q,e]at hb;cases hb).trans (I.base b o e),I.above,I.stat,I.sys⟩
 exact (I.rep.obj i o b e q).ext List.prefix_rfl T fun ob z=>(hs.2 b fun w=>hJ (w ▸ mem_of_get q)).trans z
theorem new_none{cx:Cx}{J:Jm}{H:Hp}{h:Heap}{a:Addr}(I:Inv cx J H h)(e:h.get? a=none):cx.hb.get? a=none:=by
 cases q:cx.hb.get? a with
 | none=>rfl
 | some o=>rw[I.base a o q]at e;cases e
theorem Inv.above_sys{cx:Cx}{J:Jm}{H:Hp}{h:Heap}{a:Addr}(I:Inv cx J H h)(ha:h.objs.size≤a):a≠sysModules:=by
 intro e;cases q:cx.hb.get? cStatics with
 | none=>exact I.stat q
 | some o=>
  have h1:=Heap.lt_size (I.base _ _ q);rw[e]at ha;exact absurd (Nat.lt_of_lt_of_le h1 ha) (by decide)
section
variable {cx:Cx} {cl:Caller} {n:Nat} {sc:Scope} {fs cs:List PySem.Str} {A:Around} {E':Value→Shared→Prop} {s:Shared} {J:Jm} {H:Hp} {env:Env} {m c:Loc}
theorem EPost.adopt{s':Shared}{J':Jm}{H':Hp}{a:Addr}{o:AO}(sm:∃ h tk,s'={ s with heap:=h,toks:=tk })(S:Stp J J' s.heap s'.heap noOwn)(I:Inv cx J' H' s'.heap)(hJ:a∉J')(ha:s.heap.get? a=none)(hb:cx.hb.get? a=none)(hsy:a≠sysModules)
  (r:ORep cx.w cx.C (J'++[a]) s'.heap a o):EPost cx J s (.ref H'.length) (H'++[o]) (.ref a) s':=by
 refine⟨sm,J'++[a],⟨S.pre.trans (List.prefix_append _ _),fun b hb'=> ?_,fun b o e hJ' ho=>S.keep b o e hJ' ho,S.tup,S.alive⟩,I.adopt hJ hb hsy r,a,getJ_last I.rep.len,rfl⟩
 rcases List.mem_append.mp hb' with q | q
 ·exact S.new b q
 ·rw[List.mem_singleton.mp q];exact .inr ha
theorem SE.var{i:Nat}{id:PySem.Str}{pos:Pos}{fr:Bool}(hi:(if fr || cs.isEmpty then fs else cs)[i]? =some id)(hd:(id == ("__debug__" :PySem.Str))=false)(hd2:(id == ("__classdict__" :PySem.Str))=false)(hfr:fr=true→sc.names.lookup id=some .cell∨sc.names.lookup id=some .free):
  SE cx cl n sc fs cs (if fr then .free i else .loc i) (.Name id pos):=by
 intro env A s J H m c v H' Q E' hs hA X e h;subst hs;have key:∃ val,Rep J s.heap v val∧VarIs env s.heap id val∧H'=H:=by
  have hlen:=X.len;cases fr with
  | true=>
   simp only[Bool.true_or,if_true]at hi e;unfold evE at e;split at e
   ·rename_i w q;cases e
    obtain⟨val,r,q2⟩:=X.fv i id _ hi (fun _=>hfr rfl) q
    exact⟨val,r,q2,rfl⟩
   ·cases e
  | false=>
   simp only[Bool.false_or,Bool.false_eq_true,if_false]at hi e;unfold evE at e;split at e
   ·rename_i w q;cases e
    by_cases z:cs.isEmpty
    ·rw[if_pos z]at hi
     have zc:c.isEmpty=true:=by
      rw[List.isEmpty_iff]at z ⊢;subst z;exact List.length_eq_zero_iff.mp hlen
     rw[if_pos zc]at q;obtain⟨val,r,q2⟩:=X.fv i id _ hi (fun w=>absurd (List.isEmpty_iff.mp z) w) q
     exact⟨val,r,q2,rfl⟩
    ·rw[if_neg z]at hi
     have zc:¬ c.isEmpty=true:=by
      intro y;rw[List.isEmpty_iff]at y;subst y;apply z;rw[List.isEmpty_iff];exact List.length_eq_zero_iff.mp hlen.symm
     rw[if_neg zc]at q;obtain⟨val,r,q2⟩:=X.cv i id _ hi q;exact⟨val,r,q2,rfl⟩
   ·cases e
 obtain⟨val,r,q,rfl⟩:=key;exact r_var X.fn q hd hd2 (h val s (EPost.pure (tk:=s.toks) X.inv r))
theorem SE.gInt(hC:CxOk cx){i:Int}{id:PySem.Str}{pos:Pos}{t:Tok}(hk:sc.names.lookup id=some .globalImplicit)(hv:cx.mg id=some (.int i t))(hd:(id == ("__debug__" :PySem.Str))=false):SE cx cl n sc fs cs (.const (.int i)) (.Name id pos):=by
 intro env A s J H m c v H' Q E' hs hA X e h;unfold evE at e;cases e;subst hs;exact r_global hC X hk hv hd (h _ s (EPost.pure (tk:=s.toks) X.inv ⟨t,rfl⟩))
theorem SE.neg{a:E}{xa:Expr}{pos:Pos}(ha:SE cx cl n sc fs cs a xa):SE cx cl n sc fs cs (.neg a) (.UnaryOp .USub xa pos):=by
 intro env A s J H m c v H' Q E' hs hA X e h;unfold evE at e;simp only[Option.bind_eq_bind,Option.bind_eq_some_iff,Prod.exists]at e;obtain⟨x,H1,e1,e3⟩:=e;with_reducible refine wpAny_UnaryOp ?_
 refine ha.one hs hA X e1 fun va s' J' sm S X' ra=> ?_
 split at e3
 ·cases e3
  obtain⟨t,rfl⟩:=ra;with_reducible refine P.neg_int ?_
  exact h _ _ (EPost.trans sm S (EPost.pure X'.inv ⟨_,rfl⟩))
 ·cases e3
theorem SE.not{a:E}{xa:Expr}{pos:Pos}(ha:SE cx cl n sc fs cs a xa):SE cx cl n sc fs cs (.not a) (.UnaryOp .Not xa pos):=by
 intro env A s J H m c v H' Q E' hs hA X e h;unfold evE at e;simp only[Option.bind_eq_bind,Option.bind_eq_some_iff,Prod.exists]at e;obtain⟨x,H1,e1,b,e2,e3⟩:=e;cases e3;with_reducible refine wpAny_UnaryOp ?_
 refine ha.one hs hA X e1 fun va s' J' sm S X' ra=> ?_
 unfold unaryOp;refine wpAny_holding ?_
 show wpAny cx.M A (do return .bool (!(← PySem.truthy va))) Q E' s'
 refine wpAny_bind (s_truthy X'.inv ra e2 fun tk=>wpAny_pure ?_)
 exact h _ _ (EPost.trans sm S (EPost.pure X'.inv rfl))
theorem ST.not{a:E}{xa:Expr}{pos:Pos}(ha:ST cx cl n sc fs cs a xa):ST cx cl n sc fs cs (.not a) (.UnaryOp .Not xa pos):=by
 intro env A s J H m c v H' b Q E' hs hA X e ht h;unfold evE at e;simp only[Option.bind_eq_bind,Option.bind_eq_some_iff,Prod.exists]at e;obtain⟨x,H1,e1,b',e2,e3⟩:=e;cases e3;cases ht;with_reducible refine wpAny_isTrue_Not ?_
 exact ha env A s J H m c x _ b' _ _ hs hA X e1 e2 fun s' p=>h s' p
theorem ST.of{a:E}{x:Expr}(ha:SE cx cl n sc fs cs a x)(hx:∀ env whole,isTrue x env whole=(do let v ← whole;standAt x.pos;holding [v] (PySem.truthy v))):ST cx cl n sc fs cs a x:=by
 intro env A s J H m c v H' b Q E' hs hA X e ht h;refine wpAny_isTrue_value ?_ (hx _ _)
 refine ha.one hs hA X e fun va s' J' sm S X' ra=> ?_
 exact s_truthy X'.inv ra ht fun tk=>h _ (EPost.trans sm S (EPost.pure X'.inv rfl))
def cop:Cmp→CmpOp
 | .eq=> .Eq | .ne=> .NotEq | .lt=> .Lt | .gt=> .Gt | .ge=> .GtE | .in_=> .In | .notIn=> .NotIn
theorem s_contains{k:Value→Shared→Prop}{x cc:AV}{vx vc:Value}{r:Bool}(hA:AOk A n)(I:Inv cx J H s.heap)(rx:Rep J s.heap x vx)(rc:Rep J s.heap cc vc)(h:containsV H x cc=some r)(neg:Bool)
  (hQ:∀ tk,k (.bool (if neg then !r else r)) { s with toks:=tk }):wpAny cx.M A (compareOp (if neg then .NotIn else .In) vx vc) k E' s:=by
 have hu:A.units+64<cLine:=by have:=hA.hu;omega
 have hu':A.units+70<cLine:=by have:=hA.hu;omega
 unfold containsV at h;split at h
 ·rename_i a
  obtain⟨b,hJ,rfl⟩:=rc;split at h
  ·rename_i vs hk
   cases neg with
   | false=>exact s_inList hu I rx hJ hk h (hQ s.toks)
   | true=>exact s_notInList hu I rx hJ hk h (hQ s.toks)
  ·rename_i es hk
   split at h
   ·rename_i q
    cases h;cases neg with
    | false=>exact s_inDict hu' I hJ hk rx q hQ
    | true=>exact s_notInDict hu' I hJ hk rx q hQ
   ·cases h
  ·cases h
 ·cases h
end
end Mine
end
section
open PySem PySem.W PyProof.Rows PySem.Calls
namespace Mine
section
variable {cx:Cx} {cl:Caller} {n:Nat} {sc:Scope} {fs cs:List PySem.Str} {A:Around} {E':Value→Shared→Prop} {s:Shared} {J:Jm} {H:Hp} {env:Env} {m c:Loc}
theorem s_cmp{k:Value→Shared→Prop}{o:Cmp}{x y:AV}{vx vy:Value}{r:Bool}(hA:AOk A n)(I:Inv cx J H s.heap)(rx:Rep J s.heap x vx)(ry:Rep J s.heap y vy)(h:cmpV H o x y=some r)
  (hQ:∀ tk,k (.bool r) { s with toks:=tk }):wpAny cx.M A (compareOp (cop o) vx vy) k E' s:=by
 have hu:A.units+64<cLine:=by have:=hA.hu;omega
 cases o with
 | eq=>exact s_eq hu I rx ry h (hQ s.toks)
 | ne=>
  simp only[cmpV,Option.map_eq_some_iff]at h;obtain⟨b,h,rfl⟩:=h;exact s_ne hu I rx ry h (hQ s.toks)
 | lt=>
  simp only[cmpV]at h;split at h
  ·cases h;obtain⟨t,rfl⟩:=rx;obtain⟨u,rfl⟩:=ry
   simp only[cop];with_reducible refine wpAny_lt_int ?_
   exact hQ s.toks
  ·cases h
 | gt=>
  simp only[cmpV]at h;split at h
  ·cases h;obtain⟨t,rfl⟩:=rx;obtain⟨u,rfl⟩:=ry
   simp only[cop];with_reducible refine P.gt_int ?_
   exact hQ s.toks
  ·cases h
 | ge=>
  simp only[cmpV]at h;split at h
  ·cases h;obtain⟨t,rfl⟩:=rx;obtain⟨u,rfl⟩:=ry
   simp only[cop];with_reducible refine P.ge_int ?_
   exact hQ s.toks
  ·cases h
 | in_=>exact s_contains hA I rx ry h false hQ
 | notIn=>
  simp only[cmpV,Option.map_eq_some_iff]at h;obtain⟨b,h,rfl⟩:=h;exact s_contains hA I rx ry h true hQ
theorem SE.cmp{o:Cmp}{a b:E}{xa xb:Expr}{pos:Pos}(ha:SE cx cl n sc fs cs a xa)(hb:SE cx cl n sc fs cs b xb)(hm:behindInMarks (cop o) xb=false):SE cx cl n sc fs cs (.cmp o a b) (.Compare xa [cop o] [xb] pos):=by
 intro env A s J H m c v H' Q E' hs hA X e h;unfold evE at e;simp only[Option.bind_eq_bind,Option.bind_eq_some_iff,Prod.exists]at e;obtain⟨x,H1,e1,y,H2,e2,r,e3,e4⟩:=e;cases e4;refine wpAny_Compare1 ?_ hm
 refine ha.then hb hs hA X e1 e2 fun va vb s' J' sm S X' ra rb=> ?_
 exact s_cmp hA X'.inv ra rb e3 fun tk=>h _ _ (EPost.trans sm S (EPost.pure X'.inv rfl))
theorem ST.cmp{o:Cmp}{a b:E}{xa xb:Expr}{pos:Pos}(ha:SE cx cl n sc fs cs a xa)(hb:SE cx cl n sc fs cs b xb)(hm:behindInMarks (cop o) xb=false):ST cx cl n sc fs cs (.cmp o a b) (.Compare xa [cop o] [xb] pos):=by
 intro env A s J H m c v H' b' Q E' hs hA X e ht h;unfold evE at e;simp only[Option.bind_eq_bind,Option.bind_eq_some_iff,Prod.exists]at e;obtain⟨x,H1,e1,y,H2,e2,r,e3,e4⟩:=e;cases e4;cases ht;refine wpAny_isTrue_Compare1 ?_ hm
 refine ha.then hb hs hA X e1 e2 fun va vb s' J' sm S X' ra rb=> ?_
 refine s_cmp hA X'.inv ra rb e3 fun tk=> ?_
 with_reducible refine wpAny_truthy_bool ?_
 exact h _ (EPost.trans sm S (EPost.pure X'.inv rfl))
def bopIs:Bool→BoolOp→Bool
 | true,.And=>true
 | false,.Or=>true
 | _,_=>false
inductive SB(cx:Cx)(cl:Caller)(n:Nat)(sc:Scope)(fs cs:List PySem.Str):List E→List Expr→Prop
 | nil:SB cx cl n sc fs cs [] []
 | cons {e:E} {x:Expr} {es:List E} {xs:List Expr}:SE cx cl n sc fs cs e x→ST cx cl n sc fs cs e x→SB cx cl n sc fs cs es xs→SB cx cl n sc fs cs (e::es) (x::xs)
theorem SB.evalB{k:Bool}{op:BoolOp}{pos:Pos}(hk:bopIs k op=true){es:List E}{xs:List Expr}(hb:SB cx cl n sc fs cs es xs):∀ {s:Shared} {J:Jm} {H:Hp} {v:AV} {H':Hp} {Q:Value→Shared→Prop},env.scope=sc→AOk A n→Ctx cx env fs cs m c J H s.heap→
  evB cl k es m c H=some (v,H')→(∀ val s',EPost cx J s v H' val s'→Q val s')→wpAny cx.M A (boolOp pos op (evalEach xs env)) Q E' s:=by
 induction hb with
 | nil=>intro s J H v H' Q hs hA X e h;unfold evB at e;cases e
 | @cons e x es xs h1 h2 hr ih=>
  intro s J H v H' Q hs hA X e0 h;cases es with
  | nil=>
   cases hr;unfold evB at e0;exact h1 env A s J H m c v H' Q E' hs hA X e0 h
  | cons e2 es2=>
   cases hr with
   | @cons _ x2 _ xs2 g1 g2 g3=>
   unfold evB at e0;simp only[Option.bind_eq_bind,Option.bind_eq_some_iff,Prod.exists]at e0;obtain⟨y,H1,e1,t,e3,e4⟩:=e0;show wpAny cx.M A (do
    let v ← PySem.eval x env
    standAt pos
    let t ← holding [v] (PySem.truthy v)
    match op,t with
    | .And,false | .Or,true=>pure v
    | _,_=>boolOp pos op (evalEach (x2::xs2) env)) Q E' s
   refine wpAny_bind (h1.one hs hA X e1 fun va s' J' sm S X' ra=> ?_)
   refine wpAny_bind (wpAny_standAt (wpAny_bind (wpAny_holding (s_truthy X'.inv ra e3 fun tk=> ?_))))
   have X'':Ctx cx env fs cs m c J' H1 ({ s' with toks:=tk }:Shared).heap:=X'
   by_cases q:t=k
   ·rw[if_pos q]at e4
    subst q;have:wpAny cx.M A (boolOp pos op (evalEach (x2::xs2) env)) Q E' { s' with toks:=tk }:=ih (s:={ s' with toks:=tk }) hs hA X'' e4 fun val s'' p=>h val s'' (EPost.trans (same_trans sm ⟨s'.heap,tk,rfl⟩) S p)
    cases op<;>cases t<;>first | exact this | (cases hk;done)
   ·rw[if_neg q]at e4
    cases e4;have:wpAny cx.M A (pure va) Q E' { s' with toks:=tk }:=wpAny_pure (h _ _ (EPost.trans sm S (EPost.pure X'.inv ra)))
    cases op<;>cases t<;>cases k<;>first | exact this | exact absurd rfl q | (cases hk;done)
theorem SE.bop{k:Bool}{op:BoolOp}{pos:Pos}{es:List E}{xs:List Expr}(hk:bopIs k op=true)(hb:SB cx cl n sc fs cs es xs):SE cx cl n sc fs cs (.bop k es) (.BoolOp op xs pos):=by
 intro env A s J H m c v H' Q E' hs hA X e h;unfold evE at e;rw[arm_eval_BoolOp];exact hb.evalB hk hs hA X e h
theorem SB.testB{k:Bool}{op:BoolOp}(hk:bopIs k op=true){es:List E}{xs:List Expr}(hb:SB cx cl n sc fs cs es xs):∀ {s:Shared} {J:Jm} {H:Hp} {v:AV} {H':Hp} {b:Bool} {Q:Bool→Shared→Prop},env.scope=sc→AOk A n→Ctx cx env fs cs m c J H s.heap→
  evB cl k es m c H=some (v,H')→truthy H' v=some b→(∀ s',EPost cx J s .none H' .none s'→Q b s')→wpAny cx.M A (allTrue op xs env) Q E' s:=by
 induction hb with
 | nil=>intro s J H v H' b Q hs hA X e ht h;unfold evB at e;cases e
 | @cons e x es xs h1 h2 hr ih=>
  intro s J H v H' b Q hs hA X e0 ht h;have step:∀ {y:AV} {H1:Hp} {t:Bool} {Q':Bool→Shared→Prop},evE cl e m c H=some (y,H1)→truthy H1 y=some t→
    (∀ s',EPost cx J s .none H1 .none s'→if t=k then wpAny cx.M A (allTrue op xs env) Q' E' s' else Q' t s')→wpAny cx.M A (allTrue op (x::xs) env) Q' E' s:=by
   intro y H1 t Q' e1 e3 hh;show wpAny cx.M A (do
    match op,← PySem.isTrue x env (PySem.eval x env) with
    | .And,false=>pure false
    | .Or,true=>pure true
    | _,_=>allTrue op xs env) Q' E' s
   refine wpAny_bind (h2 env A s J H m c y H1 t _ _ hs hA X e1 e3 fun s' p=> ?_)
   have:=hh s' p;cases op<;>cases t<;>cases k<;>first | (cases hk;done) | exact this | exact wpAny_pure this
  cases es with
  | nil=>
   cases hr;unfold evB at e0;refine step e0 ht fun s' p=> ?_
   split
   ·rename_i q
    subst q;cases op<;>cases b<;>first | (cases hk;done) | exact wpAny_pure (h s' p)
   ·exact h s' p
  | cons e2 es2=>
   unfold evB at e0;simp only[Option.bind_eq_bind,Option.bind_eq_some_iff,Prod.exists]at e0;obtain⟨y,H1,e1,t,e3,e4⟩:=e0;refine step e1 e3 fun s' p=> ?_
   obtain⟨sm,J',S,I,_⟩:=p;split at e4
   ·rename_i q
    rw[if_pos q];exact ih hs hA (X.step S I) e4 ht fun s'' p'=>h s'' (EPost.trans sm S p')
   ·rename_i q
    rw[if_neg q];cases e4;rw[e3]at ht;cases ht;exact h _ ⟨sm,J',S,I,rfl⟩
theorem ST.bop{k:Bool}{op:BoolOp}{pos:Pos}{es:List E}{xs:List Expr}(hk:bopIs k op=true)(hb:SB cx cl n sc fs cs es xs):ST cx cl n sc fs cs (.bop k es) (.BoolOp op xs pos):=by
 intro env A s J H m c v H' b Q E' hs hA X e ht h;unfold evE at e;with_reducible refine wpAny_isTrue_BoolOp ?_
 exact hb.testB hk hs hA X e ht h
theorem SE.ite{t a b:E}{xt xa xb:Expr}{pos:Pos}(ht:ST cx cl n sc fs cs t xt)(ha:SE cx cl n sc fs cs a xa)(hb:SE cx cl n sc fs cs b xb):SE cx cl n sc fs cs (.ite t a b) (.IfExp xt xa xb pos):=by
 intro env A s J H m c v H' Q E' hs hA X e h;unfold evE at e;simp only[Option.bind_eq_bind,Option.bind_eq_some_iff,Prod.exists]at e;obtain⟨y,H1,e1,r,e3,e4⟩:=e;with_reducible refine wpAny_IfExp ?_
 refine ht env A s J H m c y H1 r _ _ hs hA X e1 e3 fun s' p=> ?_
 obtain⟨sm,J',S,I,_⟩:=p;cases r with
 | true=>exact ha env A s' J' H1 m c v H' Q E' hs hA (X.step S I) e4 fun val s'' p'=>h val s'' (EPost.trans sm S p')
 | false=>exact hb env A s' J' H1 m c v H' Q E' hs hA (X.step S I) e4 fun val s'' p'=>h val s'' (EPost.trans sm S p')
def plainBase:Expr→Bool
 | .Name _ _=>true
 | .Attribute _ _ _=>true
 | .Subscript _ _ _=>true
 | .Dict _ _ _=>true
 | _=>false
theorem base_plain{o:Expr}{name:PySem.Str}{w:Sem Value}(h:plainBase o=true):attributeBase o name env w=w:=by
 cases o<;>first | rfl | cases h
theorem SE.attr(hC:CxOk cx)(hK:ClsOk cx){o:E}{nm:Nm}{xo:Expr}{name:PySem.Str}{pos:Pos}(ho:SE cx cl n sc fs cs o xo)(hn:decide (name.cps.toList=nm)=true)(hb:plainBase xo=true):SE cx cl n sc fs cs (.attr o nm) (.Attribute xo name pos):=by
 intro env A s J H m c v H' Q E' hs hA X e h;unfold evE at e;simp only[Option.bind_eq_bind,Option.bind_eq_some_iff,Prod.exists]at e;obtain⟨y,H1,e1,r,e3,e4⟩:=e;cases e4;have hname:name=⟨nm.toArray⟩:=by
  rw[decide_eq_true_eq]at hn;cases name;simp only at hn;subst hn;simp
 subst hname;show wpAny cx.M A (do
  let o ← attributeBase xo ⟨nm.toArray⟩ env (eval xo env)
  standAt pos.atName
  let r ← holding [o] (getAttr o ⟨nm.toArray⟩ true)
  letTemporaryGo xo o r
  pure r) Q E' s
 rw[base_plain hb];refine wpAny_bind (ho.one hs hA X e1 fun va s' J' sm S X' ra=> ?_)
 refine wpAny_bind (wpAny_standAt (wpAny_bind (wpAny_holding (s_getAttr hC hK X'.inv ra e3 fun val tk rv=> ?_))))
 refine wpAny_bind (wpAny_letTemporaryGo (wpAny_pure ?_))
 exact h _ _ (EPost.trans sm S (EPost.pure X'.inv rv))
def notSlice:Expr→Bool
 | .Slice _ _ _ _=>false
 | _=>true
theorem subscripted_plain{i:Expr}{o iv:Value}(h:notSlice i=true):subscripted i false o iv=operate [o,iv] (getItem o iv):=by
 cases i<;>first | rfl | cases h
theorem SE.sub{o i:E}{xo xi:Expr}{pos:Pos}(ho:SE cx cl n sc fs cs o xo)(hi:SE cx cl n sc fs cs i xi)(hn:notSlice xi=true):SE cx cl n sc fs cs (.sub o i) (.Subscript xo xi pos):=by
 intro env A s J H m c v H' Q E' hs hA X e h;unfold evE at e;simp only[Option.bind_eq_bind,Option.bind_eq_some_iff,Prod.exists]at e;obtain⟨x,H1,e1,y,H2,e2,r,e3,e4⟩:=e;cases e4;have hu:A.units+70<cLine:=by have:=hA.hu;omega
 refine Subscript_ (ho.then hi hs hA X e1 e2 fun vo vi s' J' sm S X' ro ri=> ?_)
 unfold subV at e3;have fin:∀ {Q':Value→Shared→Prop},wpAny cx.M A (getItem vo vi) (EPost cx J' s' v H') E' s'→wpAny cx.M A (getItem vo vi) Q E' s':=fun z=>wpAny_mono z (fun val s'' p=>h val s'' (EPost.trans sm S p)) fun _ _ z=>z
 split at e3
 ·split at e3
  ·have g:=s_getItemTup (A:=A) (E:=E') (t:=0) X'.inv ro e3
   have ro':=ro;obtain⟨a,its,k,rfl,hoo,_,_⟩:=ro';obtain⟨t,rfl⟩:=ri;have hT:s'.TypeIs (.ref a) "tuple" :=⟨_,hoo,rfl⟩;exact tail_any hT slot_tuple_getitem.lookup (fin (Q':=Q) (s_getItemTup X'.inv ro e3)) (subscripted_plain hn)
  ·cases e3
 ·rename_i k
  obtain⟨a,hJ,rfl⟩:=ro;split at e3
  ·rename_i vs hk
   split at e3
   ·obtain⟨t,rfl⟩:=ri
    obtain⟨its,k2,hoo,_,_⟩:=X'.inv.rep.obj _ _ _ hk hJ;have hT:s'.TypeIs (.ref a) "list" :=⟨_,hoo,rfl⟩;exact tail_any hT list_getitem_lookup (fin (Q':=Q) (s_getItemList X'.inv hJ hk e3)) (subscripted_plain hn)
   ·cases e3
  ·rename_i es hk
   split at e3
   ·rename_i q
    obtain⟨ds,k2,hoo,_,_,_⟩:=X'.inv.rep.obj _ _ _ hk hJ;have hT:s'.TypeIs (.ref a) "dict" :=⟨_,hoo,rfl⟩;exact tail_any hT slot_dict_getitem.lookup (fin (Q':=Q) (s_getItemDict hu X'.inv hJ hk ri q e3)) (subscripted_plain hn)
   ·cases e3
  ·cases e3
 ·cases e3
theorem SE.slice{o:E}{k:Nat}{x:PySem.Str}{np p pos kp:Pos}{kk:Nat}(ho:SE cx cl n sc fs cs o (.Name x np)):SE cx cl n sc fs cs (.slice o k) (.Subscript (.Name x np) (.Slice none (some (.Constant (.int k) kk kp)) none p) pos):=by
 intro env A s J H m c v H' Q E' hs hA X e h;unfold evE at e;simp only[Option.bind_eq_bind,Option.bind_eq_some_iff,Prod.exists]at e;obtain⟨y,H1,e1,vs,e3,e4⟩:=e;cases e4;refine wpAny_Subscript_list_slice ?_ (fun _ _=>rfl)
 refine ho.one hs hA X e1 fun va s' J' sm S X' ra=> ?_
 unfold getList at e3;split at e3
 ·rename_i j
  obtain⟨a,hJ,rfl⟩:=ra;split at e3
  ·rename_i ws hk
   cases e3;obtain⟨its,k2,hoo,rl,hz⟩:=X'.inv.rep.obj _ _ _ hk hJ;have hlen:=rl.length;have z2:=zSize;show wpAny _ _ (pure Value.none) _ _ _
   refine wpAny_pure ?_
   show wpAny _ _ (eval (.Constant (.int k) kk kp) env) _ _ _
   with_reducible refine wpAny_Constant_int ?_
   refine⟨a,its,none,some (k:Int),rfl,⟨_,hoo,rfl,_,rfl⟩,by omega,?_,?_,?_⟩
   ·constructor
   ·constructor
   ·rw[slicePick_upto']
    refine h _ _ ?_
    have k1:∀ b o,s'.heap.get? b=some o→((s'.heap.push { cls:= .type "slice",data:= .fields #[.none,.int k s'.toks,.none] }).push { cls:= .type "list",data:= .seq (its.toList.take k).toArray }).get? b=some o:=fun b o e=>Heap.get?_push_of_some _ (Heap.get?_push_of_some _ e)
    have hz1:(s'.heap.push { cls:= .type "slice",data:= .fields #[.none,.int k s'.toks,.none] }).objs.size=s'.heap.objs.size+1:=Heap.size_push ..;have fr:s'.heap.get? (s'.heap.objs.size+1)=none:=by
     cases q:s'.heap.get? (s'.heap.objs.size+1) with
     | none=>rfl
     | some o=>exact absurd (Heap.lt_size q) (Nat.not_lt.mpr (Nat.le_succ _))
    refine EPost.trans sm S (EPost.adopt (s':={ s' with heap:=_,toks:=s'.toks+1 }) ⟨_,_,rfl⟩ (Stp.of_keeps k1) (X'.inv.keeps k1) (fun q=>X'.inv.aliveJ q fr) fr (new_none X'.inv fr) (X'.inv.above_sys (Nat.le_succ _)) ?_)
    refine⟨(its.toList.take k).toArray,0,?_,?_,?_⟩
    ·rw[← hz1];exact Heap.get?_push_size _ rfl
    ·exact (rl.take k).ext (List.prefix_append _ _) fun a its n e=>k1 _ _ e
    ·rw[List.size_toArray,List.length_take];simp only[Array.length_toList];omega
  ·cases e3
 ·cases e3
end
end Mine
end
section
open PySem PySem.W PyProof.Rows PySem.Calls
namespace Mine
section
variable {cx:Cx} {cl:Caller} {n:Nat} {sc:Scope} {fs cs:List PySem.Str} {A:Around} {E':Value→Shared→Prop} {s:Shared} {J:Jm} {H:Hp} {env:Env} {m c:Loc}
theorem noStar_any{pos:Pos}:∀ {xs:List Expr},xs.all notStar=true→(backTo pos (starEach xs env)).any (·.1)=false
 | [],_=>rfl
 | e::r,h=>by
  rw[List.all_cons,Bool.and_eq_true]at h;rw[starEach_one h.1];show (false || (backTo pos (starEach r env)).any (·.1))=false
  rw[noStar_any h.2];rfl
theorem evalArgs_of{f:Value}{trees:List (Bool × Sem Value)}{Q:Args→Shared→Prop}(hp:trees.any (·.1)=false)(h:wpAny cx.M A (spliced trees) (fun vs s'=>Q ⟨vs,[]⟩ s') E' s):wpAny cx.M A (evalArgs f true trees []) Q E' s:=by
 cases trees with
 | nil=>
  unfold evalArgs;show wpAny cx.M A (spliced [] >>= _) Q E' s
  refine wpAny_bind (wpAny_mono h (fun vs s' h'=> ?_) fun _ _ x=>x)
  refine wpAny_bind (wpAny_pure ?_)
  refine wpAny_holding ?_
  exact wpAny_bind (wpAny_pure (wpAny_bind (wpAny_pure (wpAny_pure h'))))
 | cons p r=>
  obtain⟨b,x⟩:=p;rw[List.any_cons,Bool.or_eq_false_iff]at hp;obtain⟨rfl,_⟩:=hp;exact evalArgs_plain h
theorem r_callK{f:Value}{first:List Value}{pos:Pos}{es:List E}{xs:List Expr}{vs:List AV}{H':Hp}{Q:Value→Shared→Prop}(hC:CxOk cx)(hk:keepIn cx.K f=true)(hl:SL cx cl n sc fs cs es xs)(hx:xs.all notStar=true)(hs:env.scope=sc)(hA:AOk A n)
  (X:Ctx cx env fs cs m c J H s.heap) (e:evL cl es m c H=some (vs,H')) (h:∀ vals s',LPost cx J s vs H' vals s'→wpAny cx.M A (call f (first++vals)) Q E' s'):
  wpAny cx.M A (callWith pos f first (backTo pos (starEach xs env)) []) Q E' s:=by
 refine callWith_of (P:=cx.K.In) (by rw[noStar_any hx];rfl) (keeps_K hk) (evalArgs_of (noStar_any hx) ?_)
 refine hl env A s J H m c vs H' pos _ _ hs hA X e fun vals s' p=>⟨?_,h vals s' p⟩
 obtain⟨_,J',_,I,_⟩:=p;exact I.K hC
theorem r_callB{f:Value}{first:List Value}{pos:Pos}{es:List E}{xs:List Expr}{vs:List AV}{H':Hp}{Q:Value→Shared→Prop}(hk:keeperOf f=pure .machine)(hl:SL cx cl n sc fs cs es xs)(hx:xs.all notStar=true)(hs:env.scope=sc)(hA:AOk A n)
  (X:Ctx cx env fs cs m c J H s.heap) (e:evL cl es m c H=some (vs,H')) (h:∀ vals s',LPost cx J s vs H' vals s'→wpAny cx.M A (call f (first++vals)) Q E' s'):
  wpAny cx.M A (callWith pos f first (backTo pos (starEach xs env)) []) Q E' s:=by
 refine callWith_of (P:=fun _=>True) (by rw[noStar_any hx];rfl) (fun _ _=>⟨.machine,.inr (.inl rfl),Looks.of_pure hk⟩) (evalArgs_of (noStar_any hx) ?_)
 exact hl env A s J H m c vs H' pos _ _ hs hA X e fun vals s' p=>⟨trivial,h vals s' p⟩
theorem SE.call{fa:Nat→Addr}(hC:CxOk cx)(hcl:CallOk cx fa cl n){f:Nat}{es:List E}{xs:List Expr}{id:PySem.Str}{p pos:Pos}(hk:sc.names.lookup id=some .globalImplicit)(hd:(id == ("__debug__" :PySem.Str))=false)
  (hg:cx.mg id=some (.ref (fa f))∧keepIn cx.K (.ref (fa f))=true) (hl:SL cx cl n sc fs cs es xs) (hx:xs.all notStar=true):SE cx cl n sc fs cs (.call f es) (.Call (.Name id p) xs [] pos):=by
 intro env A s J H m c v H' Q E' hs hA X e h;unfold evE at e;simp only[Option.bind_eq_bind,Option.bind_eq_some_iff,Prod.exists]at e;obtain⟨vs,H1,e1,e2⟩:=e;refine Call_ (r_global hC X (by subst hs;exact hk) hg.1 hd ?_)
 refine r_callK hC hg.2 hl hx hs hA X e1 fun vals s' p=> ?_
 obtain⟨sm,J',S,I,r⟩:=p;refine wpAny_call (hcl f vs H1 v H' e2 A s' J' vals _ hA.c I r fun val s'' p=> ?_)
 exact h _ _ (EPost.trans sm S p)
theorem type_frames(args:List Value):Code.frames (.builtin "type.__call__" ⟨args,[]⟩)=0:=by
 unfold Code.frames;split<;>first | rfl | simp_all
theorem AOk.under_type{args:List Value}(hA:AOk A n):AOkC (A.under (.builtin "type.__call__" ⟨args,[]⟩)) n:=by
 refine⟨hA.1,?_,?_⟩
 ·show A.depth+Code.weight _+_+_<_
  have:Code.weight (.builtin "type.__call__" ⟨args,[]⟩)≤1:=by
   unfold Code.weight;have h2:Code.isGuard (.builtin "type.__call__" ⟨args,[]⟩)=false:=by unfold Code.isGuard;show guardIds.contains "type.__call__" =false;decide+kernel
   have h3:Code.isCaller (.builtin "type.__call__" ⟨args,[]⟩)=false:=by unfold Code.isCaller;split<;>simp_all
   rw[type_frames,h2,h3];split<;>simp
  have:=hA.2.1;omega
 ·show A.units+Code.cUnits _+_+_<_
  have:Code.cUnits (.builtin "type.__call__" ⟨args,[]⟩)≤8:=by
   unfold Code.cUnits;simp[type_frames]
  have:=hA.2.2;omega
theorem SE.new{fa:Nat→Addr}(hC:CxOk cx)(hcl:CallOk cx fa cl n){es:List E}{xs:List Expr}{id:PySem.Str}{p pos:Pos}(hk:sc.names.lookup id=some .globalImplicit)(hd:(id == ("__debug__" :PySem.Str))=false)
  (hg:cx.mg id=some (.ref cx.C)∧keepIn cx.K (.ref cx.C)=true) (hm:makesIn cx.K cx.C=true) (hi:findIn cx.K (.ref cx.C) "__init__" =some (some (.ref (fa 0)))∧typeIn cx.K (.ref (fa 0))=some (.type "function"))
  (hl:SL cx cl n sc fs cs es xs) (hx:xs.all notStar=true):SE cx cl n sc fs cs (.new es) (.Call (.Name id p) xs [] pos):=by
 intro env A s J H m c v H' Q E' hs hA X e h;unfold evE at e;simp only[Option.bind_eq_bind,Option.bind_eq_some_iff,Prod.exists]at e;obtain⟨vs,H1,e1,r,H2,e2,e3⟩:=e;refine Call_ (r_global hC X (by subst hs;exact hk) hg.1 hd ?_)
 refine r_callK hC hg.2 hl hx hs hA X e1 fun vals s' p=> ?_
 obtain⟨sm,J',S,I,rl⟩:=p;obtain⟨S2,I2,l2⟩:=new_inv I;refine wpAny_call (s_new hC I hm hi.1 hi.2 ?_)
 refine hcl 0 _ _ r H2 e2 _ _ _ _ _ hA.under_type I2 ⟨_,_,rfl,⟨_,l2,rfl⟩,rl.mono S2⟩ fun val s'' p=> ?_
 obtain⟨sm3,J3,S3,I3,r3⟩:=p;split at e3
 ·cases e3
  cases r3;refine⟨rfl,h _ _ ⟨same_trans sm (same_trans ⟨_,_,rfl⟩ sm3),J3,S.trans (S2.trans S3),I3,_,prefix_get S3.pre l2,rfl⟩⟩
 ·cases e3
theorem r_method{o:Expr}{name:PySem.Str}{apos pos:Pos}{args:List Expr}{Q:Value→Shared→Prop}(hb:plainBase o=true)(hx:args.all notStar=true)(hn:args.length<20)(hline:(apos.endLine == pos.line)=true)
  (h:wpAny cx.M A (eval o env) (fun ov s₁=>wpAny cx.M A (getMethod ov name (do return (← importBound o env).getD true)) (fun fx s₂=>wpAny cx.M A (callWith pos fx.1 fx.2 (backTo pos (starEach args env)) []) Q E' s₂) E' s₁) E' s):
  wpAny cx.M A (eval (.Call (.Attribute o name apos) args [] pos) env) Q E' s:=by
 rw[arm_eval_Call,base_plain hb];refine wpAny_bind (wpAny_mono h (fun ov s₁ h₁=> ?_) fun _ _ e=>e)
 refine wpAny_bind (wpAny_standAt ?_)
 have hall:∀ {xs:List Expr},xs.all notStar=true→(backTo pos (starEach xs env)).all (fun x=> !x.1)=true:=by
  intro xs;induction xs with
  | nil=>intro _;rfl
  | cons e r ih=>
   intro hh;rw[List.all_cons,Bool.and_eq_true]at hh;rw[starEach_one hh.1];show (!false&&(backTo pos (starEach r env)).all (fun x=> !x.1))=true
   rw[ih hh.2];rfl
 have hform:methodCallForm (args.length+([]:List Keyword).length) (backTo pos (starEach args env)) (backToKw pos (keywordEach [] env))=true:=by
  unfold methodCallForm;rw[hall hx];have:decide (args.length+0+0<30)=true:=by rw[decide_eq_true_eq];omega
  exact this
 have hpos:methodCallPos true o env apos pos=pure pos:=by unfold methodCallPos;simp[hline]
 unfold methodCall;rw[hform];refine wpAny_bind (wpAny_holding (wpAny_mono h₁ (fun fx s₂ h₂=> ?_) fun _ _ e=>e))
 exact wpAny_bind (wpAny_of_eq hpos h₂)
theorem SE.meth{fa:Nat→Addr}(hC:CxOk cx)(hK:ClsOk cx)(hcl:CallOk cx fa cl n){o:E}{f:Nat}{es:List E}{xo:Expr}{xs:List Expr}{name:PySem.Str}{apos pos:Pos}(hb:plainBase xo=true)(hx:xs.all notStar=true)(hn:xs.length<20)(hline:(apos.endLine == pos.line)=true)
  (hg:attrNames.contains name.cps.toList=false∧findIn cx.K (.ref cx.C) name=some (some (.ref (fa f)))∧isFn cx.K (.ref (fa f))=true∧keepIn cx.K (.ref (fa f))=true) (ho:SE cx cl n sc fs cs o xo) (hl:SL cx cl n sc fs cs es xs):
  SE cx cl n sc fs cs (.meth o f es) (.Call (.Attribute xo name apos) xs [] pos):=by
 intro env A s J H m c v H' Q E' hs hA X e h;unfold evE at e;simp only[Option.bind_eq_bind,Option.bind_eq_some_iff,Prod.exists]at e;obtain⟨x,H1,e1,e2⟩:=e;refine r_method hb hx hn hline (ho.one hs hA X e1 fun va s' J' sm S X' ra=> ?_)
 split at e2
 ·rename_i k
  obtain⟨a,hJ,rfl⟩:=ra;split at e2
  ·rename_i hi
   simp only[Option.bind_eq_some_iff,Prod.exists]at e2;obtain⟨vs,H2,e2,e3⟩:=e2;refine s_getMethod hC hK X'.inv hJ hi hg.1 hg.2.1 hg.2.2.1 ?_
   refine r_callK hC hg.2.2.2 hl hx hs hA X' e2 fun vals s'' p=> ?_
   obtain⟨sm2,J2,S2,I2,rl⟩:=p;refine wpAny_call (hcl f _ _ v H' e3 A s'' J2 (.ref a::vals) _ hA.c I2 ⟨_,_,rfl,⟨a,prefix_get S2.pre hJ,rfl⟩,rl⟩ fun val s3 p3=> ?_)
   exact h _ _ (EPost.trans sm S (EPost.trans sm2 S2 p3))
  ·cases e2
 ·cases e2
end
end Mine
end
section
open PySem PySem.W PyProof.Rows PySem.Calls
namespace Mine
section
variable {cx:Cx} {cl:Caller} {n:Nat} {sc:Scope} {fs cs:List PySem.Str} {A:Around} {E':Value→Shared→Prop} {s:Shared} {J:Jm} {H:Hp} {env:Env} {m c:Loc}
def biVal:BI→Option Value
 | .len=>some (.builtin "len")
 | .list=>some (.type "list")
 | .tuple=>some (.type "tuple")
 | .sum=>some (.builtin "sum")
 | .min1=>some (.builtin "min")
 | .min2=>some (.builtin "min")
 | .str=>some (.type "str")
 | .lenset=>none
theorem biVal_keeper{b:BI}{f:Value}(h:biVal b=some f):keeperOf f=pure .machine:=by
 cases b<;>cases h<;>rfl
theorem s_bi{b:BI}{f:Value}{vs:List AV}{vals:List Value}{v:AV}{H':Hp}(hC:CxOk cx)(hh:A.handled=none)(hb:biVal b=some f)(I:Inv cx J H s.heap)(r:RepL J s.heap vs vals)(h:biV H b vs=some (v,H')):
  wpAny cx.M A (call f vals) (EPost cx J s v H') E' s:=by
 unfold biV at h;split at h
 ·cases hb;cases h
  obtain⟨y,ys,rfl,ry,rfl⟩:=r;exact s_lenTup I ry
 ·cases hb
  obtain⟨y,ys,rfl,ry,rfl⟩:=r;obtain⟨a,hJ,rfl⟩:=ry;split at h
  ·rename_i hk;cases h;exact s_lenList I hJ hk
  ·cases h
 ·cases hb
  obtain⟨y,ys,rfl,ry,rfl⟩:=r;obtain⟨a,hJ,rfl⟩:=ry;split at h
  ·rename_i hk;cases h;exact s_list I hJ hk
  ·cases h
 ·cases hb
  obtain⟨y,ys,rfl,ry,rfl⟩:=r;obtain⟨a,hJ,rfl⟩:=ry;split at h
  ·rename_i hk;cases h;exact s_tuple I hJ hk
  ·cases h
 ·cases hb
  obtain⟨y,ys,rfl,ry,rfl⟩:=r;obtain⟨a,hJ,rfl⟩:=ry;split at h
  ·rename_i hk
   simp only[Option.map_eq_some_iff]at h;obtain⟨is,hi,e⟩:=h;cases e;exact s_sum hC hh I hJ hk hi
  ·cases h
 ·cases hb
  obtain⟨y,ys,rfl,ry,rfl⟩:=r;simp only[Option.bind_eq_bind,Option.bind_eq_some_iff]at h;obtain⟨is,hi,mn,hm,e⟩:=h;cases e;exact s_min1 hh I ry hi hm
 ·cases hb;cases h
  obtain⟨y,ys,rfl,ry,z,zs,rfl,rz,rfl⟩:=r;exact s_min2 hh I ry rz
 ·cases hb
  obtain⟨y,ys,rfl,ry,rfl⟩:=r;split at h
  ·rename_i q;cases h;exact s_str I ry q.1 q.2
  ·cases h
 ·cases hb
 ·cases h
theorem SE.bi(hC:CxOk cx){b:BI}{f:Value}{es:List E}{xs:List Expr}{id:PySem.Str}{p pos:Pos}(hb:biVal b=some f)(hk:sc.names.lookup id=some .globalImplicit)(hd:(id == ("__debug__" :PySem.Str))=false)
  (hg:cx.mg id=none∧bootBuiltins id=some f∧id≠ "__name__") (hl:SL cx cl n sc fs cs es xs) (hx:xs.all notStar=true):SE cx cl n sc fs cs (.bi b es) (.Call (.Name id p) xs [] pos):=by
 intro env A s J H m c v H' Q E' hs hA X e h;unfold evE at e;simp only[Option.bind_eq_bind,Option.bind_eq_some_iff,Prod.exists]at e;obtain⟨vs,H1,e1,e2⟩:=e;refine Call_ (r_builtin hC X (by subst hs;exact hk) hg.1 hg.2.1 hg.2.2 hd ?_)
 refine r_callB (biVal_keeper hb) hl hx hs hA X e1 fun vals s' p=> ?_
 obtain⟨sm,J',S,I,r⟩:=p;exact wpAny_mono (s_bi hC hA.hh hb I r e2) (fun val s'' p=>h _ _ (EPost.trans sm S p)) fun _ _ z=>z
theorem SE.lenset(hC:CxOk cx){a:E}{xa:Expr}{id id2:PySem.Str}{p p2 pos pos2:Pos}(hk:sc.names.lookup id=some .globalImplicit)(hd:(id == ("__debug__" :PySem.Str))=false)(hg:cx.mg id=none∧bootBuiltins id=some (.builtin "len")∧id≠ "__name__")
  (hk2:sc.names.lookup id2=some .globalImplicit) (hd2:(id2 == ("__debug__" :PySem.Str))=false) (hg2:cx.mg id2=none∧bootBuiltins id2=some (.type "set")∧id2≠ "__name__") (ha:SE cx cl n sc fs cs a xa) (hx:notStar xa=true):
  SE cx cl n sc fs cs (.bi .lenset [a]) (.Call (.Name id p) [.Call (.Name id2 p2) [xa] [] pos2] [] pos):=by
 intro env A s J H m c v H' Q E' hs hA X e h;unfold evE at e;simp only[Option.bind_eq_bind,Option.bind_eq_some_iff,Prod.exists]at e;obtain⟨vs,H1,e1,e2⟩:=e;refine Call_ (r_builtin hC X (by subst hs;exact hk) hg.1 hg.2.1 hg.2.2 hd ?_)
 refine callWith_of (P:=fun _=>True) rfl (fun _ _=>⟨.machine,.inr (.inl rfl),Looks.of_pure rfl⟩) (evalArgs_of rfl ?_)
 refine wpAny_items_cons ?_ rfl
 refine Call_ (r_builtin hC X (by subst hs;exact hk2) hg2.1 hg2.2.1 hg2.2.2 hd2 ?_)
 refine r_callB rfl (SL.cons ha SL.nil hx) (by rw[List.all_cons,hx];rfl) hs hA X e1 fun vals s' p=> ?_
 obtain⟨sm,J',S,I,r⟩:=p;unfold biV at e2;split at e2;all_goals first | contradiction | (cases e2;done) | skip
 ·split at e2
  ·rename_i vs hz
   simp only[Option.map_eq_some_iff]at e2;obtain⟨is,hi,e⟩:=e2;cases e;obtain⟨y,ys,rfl,ry,rfl⟩:=r;obtain⟨t,its,k,rfl,ho,rl,htz⟩:=ry;have hlen:=rl.length;simp only[Array.length_toList]at hlen;have hints:=ints_are rl hi;refine set_of_tuple hA.hh ho hints (by have:scanBound=4096:=rfl;omega) fun h' tk hS kp=> ?_
   refine wpAny_items_nil ⟨trivial,?_⟩
   obtain⟨o,els,ep,tb,hso,hex,hsd,_,_,hsz,hfit,hcount⟩:=hS;have hc2:els.size≤its.size:=by
    rw[hcount];have hl:is.length=its.size:=by have:=hints.length;simpa using this.symm
    rw[← hl,firstMet_len];unfold dedupLen dedup;have:∀ (l:List Int) (acc:List Int),(l.foldl (fun acc x=>if acc.any (· == x) then acc else acc++[x]) acc).length≤acc.length+l.length:=by
     intro l;induction l with
     | nil=>intro acc;simp
     | cons a r ih=>
      intro acc;rw[List.foldl_cons];split
      ·have:=ih acc;simp only[List.length_cons];omega
      ·have:=ih (acc++[a]);simp only[List.length_append,List.length_cons,List.length_nil]at this ⊢;omega
    simpa using this is []
   refine call_len_set hso hex hsd hfit (by omega) ?_
   have kk:∀ b o,s'.heap.get? b=some o→h'.get? b=some o:=fun b o e=>kp b o (Heap.lt_size e) e
   have hl:is.length=its.size:=by have:=hints.length;simpa using this.symm
   have e9:els.size=dedupLen is:=by rw[hcount,← hl,firstMet_len]
   exact h _ _ (EPost.trans sm S ⟨⟨h',_,rfl⟩,J',Stp.of_keeps kk,I.keeps kk,⟨_,by rw[e9]⟩⟩)
  ·cases e2
def bmName:Me→Nm
 | .append=>[97,112,112,101,110,100]
 | .extend=>[101,120,116,101,110,100]
 | .pop=>[112,111,112]
 | .index=>[105,110,100,101,120]
 | .get=>[103,101,116]
def bmId:Me→String
 | .append=> "list.append"
 | .extend=> "list.extend"
 | .pop=> "list.pop"
 | .index=> "list.index"
 | .get=> "dict.get"
theorem s_bm{b:Me}{x:AV}{vx:Value}{vs:List AV}{vals:List Value}{v:AV}{H':Hp}(hA:AOk A n)(I:Inv cx J H s.heap)(rx:Rep J s.heap x vx)(r:RepL J s.heap vs vals)(h:bmV H b x vs=some (v,H')):
  wpAny cx.M A (call (.builtin (bmId b)) (vx::vals)) (EPost cx J s v H') E' s:=by
 have hu:A.units+64<cLine:=by have:=hA.hu;omega
 have hu':A.units+70<cLine:=by have:=hA.hu;omega
 unfold bmV at h;split at h
 ·rename_i k
  obtain⟨a,hJ,rfl⟩:=rx;split at h
  ·rename_i xs hk
   split at h
   ·obtain⟨y,ys,rfl,ry,rfl⟩:=r
    split at h
    ·rename_i q;cases h;exact s_append I hJ hk ry q
    ·cases h
   ·obtain⟨y,ys,rfl,ry,rfl⟩:=r
    obtain⟨t,its,k2,rfl,ho,rl,htz⟩:=ry;split at h
    ·rename_i q;cases h;exact s_extendWith (.inr rfl) I hJ hk ho rl q
    ·cases h
   ·obtain⟨y,ys,rfl,ry,rfl⟩:=r
    obtain⟨b2,hJ2,rfl⟩:=ry;split at h
    ·rename_i ys2 hk2
     split at h
     ·rename_i q;cases h
      obtain⟨its,k2,ho,rl,_⟩:=I.rep.obj _ _ _ hk2 hJ2;exact s_extendWith (.inl rfl) I hJ hk ho rl q.2
     ·cases h
    ·cases h
   ·cases r
    split at h
    ·rename_i w hw;cases h;exact s_pop I hJ hk hw
    ·cases h
   ·obtain⟨y,ys,rfl,ry,rfl⟩:=r
    simp only[Option.map_eq_some_iff]at h;obtain⟨j,hj,e⟩:=h;cases e;simp only[Option.bind_eq_bind,Option.bind_eq_some_iff,Option.pure_def,Option.some.injEq]at hj;obtain⟨j',hj,rfl⟩:=hj;exact s_index hu I ry hJ hk hj
   ·cases h
  ·rename_i es hk
   split at h
   ·obtain⟨y,ys,rfl,ry,z,zs,rfl,rz,rfl⟩:=r
    split at h
    ·rename_i q;cases h;exact s_dictGet2 hu' I hJ hk ry q rz
    ·cases h
   ·cases h
  ·cases h
 ·cases h
theorem s_bmMethod{b:Me}{x:AV}{vx:Value}{pl:Sem Bool}{Q:Value × List Value→Shared→Prop}(I:Inv cx J H s.heap)(rx:Rep J s.heap x vx)(h:bmOk H b x=true)(hQ:Q (.builtin (bmId b),[vx]) s):
  wpAny cx.M A (getMethod vx ⟨(bmName b).toArray⟩ pl) Q E' s:=by
 unfold bmOk at h;split at h
 ·obtain⟨a,hJ,rfl⟩:=rx
  split at h
  ·rename_i xs hk
   obtain⟨its,k2,ho,_,_⟩:=I.rep.obj _ _ _ hk hJ;have hT:s.TypeIs (.ref a) "list" :=⟨_,ho,rfl⟩;have hd:∀ a',Value.ref a= .ref a'→∃ o,s.heap.get? a'=some o∧o.dict=none:=by intro a' e;cases e;exact⟨_,ho,rfl⟩
   cases b with
   | append=>exact getMethod_builtin hT PySem.F.plainAttrs_list PySem.F.slot_list_append PySem.F.type_list_append hd hQ
   | extend=>exact getMethod_builtin hT PySem.F.plainAttrs_list PySem.F.slot_list_extend PySem.F.type_list_extend hd hQ
   | pop=>exact getMethod_builtin hT PySem.F.plainAttrs_list PySem.F.slot_list_pop PySem.F.type_list_pop hd hQ
   | index=>exact getMethod_builtin hT PySem.F.plainAttrs_list PySem.F.slot_list_index PySem.F.type_list_index hd hQ
   | get=>cases h
  ·rename_i es hk
   obtain⟨its,k2,ho,_,_⟩:=I.rep.obj _ _ _ hk hJ;have hT:s.TypeIs (.ref a) "dict" :=⟨_,ho,rfl⟩;have hd:∀ a',Value.ref a= .ref a'→∃ o,s.heap.get? a'=some o∧o.dict=none:=by intro a' e;cases e;exact⟨_,ho,rfl⟩
   cases b with
   | get=>exact getMethod_builtin hT PySem.F.plainAttrs_dict PySem.F.slot_dict_get PySem.F.type_dict_get hd hQ
   | _=>cases h
  ·cases h
 ·cases h
theorem SE.bm{b:Me}{o:E}{es:List E}{xo:Expr}{xs:List Expr}{name:PySem.Str}{apos pos:Pos}(hnm:name.cps.toList=bmName b)(hb:plainBase xo=true)(hx:xs.all notStar=true)(hn:xs.length<20)(hline:(apos.endLine == pos.line)=true)
  (ho:SE cx cl n sc fs cs o xo) (hl:SL cx cl n sc fs cs es xs):SE cx cl n sc fs cs (.bm b o es) (.Call (.Attribute xo name apos) xs [] pos):=by
 intro env A s J H m c v H' Q E' hs hA X e h;unfold evE at e;simp only[Option.bind_eq_bind,Option.bind_eq_some_iff,Prod.exists]at e;obtain⟨x,H1,e1,e2⟩:=e;have hname:name=⟨(bmName b).toArray⟩:=by cases name;simp only at hnm;rw[← hnm]
 subst hname;refine r_method hb hx hn hline (ho.one hs hA X e1 fun va s' J' sm S X' ra=> ?_)
 split at e2
 ·rename_i hok
  simp only[Option.bind_eq_some_iff,Prod.exists]at e2;obtain⟨vs,H2,e2,e3⟩:=e2;refine s_bmMethod X'.inv ra hok ?_
  refine r_callB rfl hl hx hs hA X' e2 fun vals s'' p=> ?_
  obtain⟨sm2,J2,S2,I2,rl⟩:=p;exact wpAny_mono (s_bm hA I2 (ra.mono S2) rl e3) (fun val s3 p3=>h _ _ (EPost.trans sm S (EPost.trans sm2 S2 p3))) fun _ _ z=>z
 ·cases e2
def SP(cx:Cx)(cl:Caller)(n:Nat)(sc:Scope)(fs cs:List PySem.Str)(es:List E)(ks:List (Option Expr))(xs:List Expr):Prop:=
 ∀ (env:Env) (A:Around) (s:Shared) (J:Jm) (H:Hp) (m c:Loc) (vs:List AV) (H':Hp) (pos:Pos) (Q:List (Value × Value)→Shared→Prop) (E':Value→Shared→Prop),env.scope=sc→AOk A n→Ctx cx env fs cs m c J H s.heap→
  evL cl es m c H=some (vs,H')→(∀ vals s',LPost cx J s vs H' (vals.flatMap fun p=>[p.1,p.2]) s'→Q vals s')→wpAny cx.M A (evalPairs (pairTrees ks xs env pos)) Q E' s
theorem SP.nil:SP cx cl n sc fs cs [] [] []:=by
 intro env A s J H m c vs H' pos Q E' hs hA X e h;unfold evL at e;cases e;exact pairTrees_nil_walk (h [] s ⟨⟨_,_,rfl⟩,J,Stp.refl _ _ _,X.inv,rfl⟩)
theorem SP.cons{k e:E}{xk x:Expr}{es:List E}{ks:List (Option Expr)}{xs:List Expr}(h0:SE cx cl n sc fs cs k xk)(h1:SE cx cl n sc fs cs e x)(h2:SP cx cl n sc fs cs es ks xs):SP cx cl n sc fs cs (k::e::es) (some xk::ks) (x::xs):=by
 intro env A s J H m c vs H' pos Q E' hs hA X e0 h;unfold evL evL at e0;simp only[Option.bind_eq_bind,Option.bind_eq_some_iff,Prod.exists]at e0;obtain⟨vk,H1,e1,vs1,H2,⟨v,H3,e2,vs2,H4,e3,e4⟩,e5⟩:=e0;cases e4;cases e5;refine pairTrees_cons_walk (h0.then h1 hs hA X e1 e2 fun va vb s' J' sm S X' ra rb=> ?_)
 refine h2 env A s' J' H3 m c vs2 _ pos _ _ hs hA X' e3 fun vals s₂ p=> ?_
 obtain⟨sm₂,J₂,S₂,I₂,r₂⟩:=p;exact h _ _ ⟨same_trans sm sm₂,J₂,S.trans S₂,I₂,va,_,rfl,ra.mono S₂,vb,_,rfl,rb.mono S₂,r₂⟩
end
end Mine
end
section
open PySem PySem.W PyProof.Rows PySem.Calls
namespace Mine
theorem Stp.late{J J2:Jm}{h h2 h3:Heap}{D:Addr}{own:Addr→Prop}(S:Stp J J2 h h2 noOwn)(hD:h.get? D=none)(S2:Stp (J2++[D]) (J2++[D]) h2 h3 own)(ho:∀ a,own a→h.get? a=none):Stp J (J2++[D]) h h3 noOwn where
 pre:=S.pre.trans (List.prefix_append _ _)
 new:=fun b hb=>by
  rcases List.mem_append.mp hb with q | q
  ·exact S.new b q
  ·rw[List.mem_singleton.mp q];exact .inr hD
 keep:=fun b o e hJ _=>by
  refine S2.keep b o (S.keep b o e hJ fun x=>x) (fun q=> ?_) (fun q=>by rw[ho b q]at e;cases e)
  rcases List.mem_append.mp q with q | q
  ·rcases S.new b q with z | z
   ·exact hJ z
   ·rw[z]at e;cases e
  ·rw[List.mem_singleton.mp q,hD]at e;cases e
 tup:=fun a its n e=>S2.tup a its n (S.tup a its n e)
 alive:=fun a e=>S2.alive a (S.alive a e)
section
variable {cx:Cx} {cl:Caller} {n:Nat} {sc:Scope} {fs cs:List PySem.Str} {A:Around} {E':Value→Shared→Prop} {s:Shared} {J:Jm} {H:Hp} {env:Env} {m c:Loc}
theorem pairUp_cons{k v:AV}{r:List AV}{ps:List (AV × AV)}(h:pairUp (k::v::r)=some ps):isKey k=true∧∃ ps',pairUp r=some ps'∧ps=(k,v)::ps':=by
 unfold pairUp at h;split at h
 ·rename_i q
  simp only[Option.map_eq_some_iff]at h;obtain⟨ps',e,rfl⟩:=h;exact⟨q,ps',e,rfl⟩
 ·cases h
theorem dput_len_le:∀ (es:List (AV × AV)) (k v:AV),(dput es k v).length≤es.length+1
 | [],_,_=>by simp[dput]
 | (a,b)::r,k,v=>by
  have ih:=dput_len_le r k v;unfold dput;split
  ·simp
  ·simp only[List.length_cons];omega
theorem flat_len:∀ vals:List (Value × Value),(vals.flatMap fun p=>[p.1,p.2]).length=2 * vals.length
 | []=>rfl
 | a::r=>by rw[List.flatMap_cons,List.length_append,flat_len r];simp;omega
theorem s_storeAll{a:Addr}{k:Nat}(hA:AOk A n):∀ (vals:List (Value × Value)) (vs:List AV) (ps:List (AV × AV)) (es:List (AV × AV)) (s:Shared) (H:Hp) (Q:Shared→Prop),RepL J s.heap vs (vals.flatMap fun p=>[p.1,p.2])→pairUp vs=some ps→
  Inv cx J H s.heap→J[k]? =some a→H[k]? =some (.dict es)→es.length+vals.length<lenLid→
  (∀ s',(∃ h tk,s'={ s with heap:=h,toks:=tk })→Stp J J s.heap s'.heap noOwn→Inv cx J (H.set k (.dict (ps.foldl (fun es p=>dput es p.1 p.2) es))) s'.heap→Q s')→
  wpAny cx.M A (storeAll a vals) (fun _=>Q) E' s
 | [],vs,ps,es,s,H,Q,r,hp,I,hJ,hk,hz,h=>by
  have hv:vs=[]:=by
   cases vs with
   | nil=>rfl
   | cons x xs=>obtain ⟨_,_,e,_⟩:=r;cases e
  subst hv;cases hp;unfold storeAll;rw[List.forIn_nil];refine wpAny_pure (h s ⟨_,_,rfl⟩ (Stp.refl _ _ _) ?_)
  have:H.set k (.dict es)=H:=by
   obtain⟨hlt,e⟩:=List.getElem?_eq_some_iff.mp hk;rw[← e];exact List.set_getElem_self hlt
  simp only[List.foldl_nil];rw[this];exact I
 | (vk,vv)::r0,vs,ps,es,s,H,Q,r,hp,I,hJ,hk,hz,h=>by
  have hu:A.units+64<cLine:=by have:=hA.hu;omega
  match vs,r,hp with
  | [],r,_=>cases r
  | [x],r,_=>obtain ⟨_,_,e,_,q⟩:=r;cases q;cases e
  | xk::xv::vs',r,hp=>
   obtain⟨_,_,e,rk,_,_,e2,rv,rr⟩:=r;cases e;cases e2;obtain⟨hkey,ps',hp',rfl⟩:=pairUp_cons hp;obtain⟨ds,m0,ho,D,nd,hne⟩:=I.rep.obj _ _ _ hk hJ;unfold storeAll;rw[List.forIn_cons];simp only[List.length_cons]at hz;refine wpAny_bind (wpAny_bind (s_dictSet hu I hJ ho D nd hne rk hkey rv (by omega) fun h' tk ds' n' hs e S D' hn'=>wpAny_pure ?_))
   have I':=I.set hJ hs (o':= .dict (dput es xk xv)) ⟨ds',n',e,D',dput_nodup nd,hn'⟩;have hlt:=(List.getElem?_eq_some_iff.mp hk).1;have hl2:=dput_len_le es xk xv;refine s_storeAll hA r0 vs' ps' (dput es xk xv) { s with heap:=h',toks:=tk } _ Q (rr.mono S) hp' I' hJ (List.getElem?_set_self hlt) (by omega) fun s' sm S' I2=>h s' (same_trans ⟨_,_,rfl⟩ sm) (S.trans S') ?_
   rw[List.set_set]at I2;exact I2
theorem SE.dict{es:List E}{ks:List (Option Expr)}{xs:List Expr}{pos:Pos}(hl:SP cx cl n sc fs cs es ks xs)(hall:ks.all (·.isSome)=true)(hlen:ks.length=xs.length)(h0:ks≠[])(hz:ks.length≤15)(hes:es.length≤100):SE cx cl n sc fs cs (.dict es) (.Dict ks xs pos):=by
 intro env A s J H m c v H' Q E' hs hA X e h;unfold evE at e;simp only[Option.bind_eq_bind,Option.bind_eq_some_iff,Prod.exists]at e;obtain⟨vs,H1,e1,ps,e2,e3⟩:=e;cases e3;refine wpAny_Dict_any hall hlen h0 hz ?_
 have kk:∀ b o,s.heap.get? b=some o→(s.heap.push { cls:= .type "dict",data:= .dict #[] }).get? b=some o:=fun b o e=>Heap.get?_push_of_some _ e
 have X1:Ctx cx env fs cs m c J H (s.heap.push { cls:= .type "dict",data:= .dict #[] }):=X.step (Stp.of_keeps kk) (X.inv.keeps kk);have hg:(s.heap.push { cls:= .type "dict",data:= .dict #[] }).get? s.heap.objs.size=some (dictOf [] 0):=Heap.get?_push_size _ rfl;have hf:=fresh_size s.heap;refine hl env A _ J H m c vs H1 pos _ _ hs hA X1 e1 fun vals s2 p=> ?_
 obtain⟨sm2,J2,S2,I2,r2⟩:=p;have hD:s.heap.objs.size∉J:=fun q=>X.inv.aliveJ q hf
 have hD2:s.heap.objs.size∉J2:=fun q=>(S2.new _ q).elim hD (fun z=>by rw[show (s.heap.push { cls:= .type "dict",data:= .dict #[] }).get? s.heap.objs.size=some (dictOf [] 0) from hg]at z;cases z)
 have hg2:=S2.kept hD hg;have Sa:Stp J J2 s.heap s2.heap noOwn:=(Stp.of_keeps kk).trans S2;have I3:=I2.adopt (o:= .dict []) hD2 (new_none X.inv hf) (X.inv.above_sys (Nat.le_refl _)) ⟨[],0,hg2,.nil,List.Pairwise.nil,rfl⟩;have lj:(J2++[s.heap.objs.size])[H1.length]? =some s.heap.objs.size:=getJ_last I2.rep.len;have lh:(H1++[AO.dict []])[H1.length]? =some (.dict []):=by rw[List.getElem?_append_right (Nat.le_refl _),Nat.sub_self];rfl
 have hlen2:vals.length≤100:=by
  have q1:=r2.length;have q2:=flat_len vals;have q3:=evL_length e1;omega
 refine s_storeAll (E':=E') hA vals vs ps [] s2 (H1++[.dict []]) (Q (.ref s.heap.objs.size)) (r2.ext (List.prefix_append _ _) fun _ _ _ z=>z) e2 I3 lj lh (by simp[lenLid];omega) fun s3 sm3 S3 I4=> ?_
 refine h _ s3 ⟨same_trans (same_trans ⟨_,s.toks,rfl⟩ sm2) sm3,J2++[s.heap.objs.size],Sa.late hf S3 (fun _ x=>x.elim),?_,_,lj,rfl⟩
 rw[List.set_append_right _ _ (Nat.le_refl _),Nat.sub_self]at I4;exact I4
theorem SE.dict0{pos:Pos}:SE cx cl n sc fs cs (.dict []) (.Dict [] [] pos):=by
 intro env A s J H m c v H' Q E' hs hA X e h;unfold evE evL at e;cases e;with_reducible refine wpAny_Dict_empty ?_
 have kk:∀ b o,s.heap.get? b=some o→(s.heap.push { cls:= .type "dict",data:= .dict #[] }).get? b=some o:=fun b o e=>Heap.get?_push_of_some _ e
 exact h _ _ (EPost.push (tk:=s.toks) X.inv kk fun S=>⟨[],0,Heap.get?_push_size _ rfl,.nil,List.Pairwise.nil,rfl⟩)
end
end Mine
end
section
open PySem PySem.W PyProof.Rows PySem.Calls
namespace Mine
structure FrameIs(env:Env)(h:Heap):Prop where
 ns:∃ mm,h.Ns env.locals mm
 cells:env.func≠none→∀ p∈env.cells,∃ ov,h.IsCell p.2 ov
structure StoreOk(env:Env)(xs:List PySem.Str):Prop where
 fn:env.scope.kind= .function
 sep:∀ p∈env.cells,p.2≠env.locals
 kinds:∀ x∈xs,env.kindOf x=some .local∨(env.kindOf x=some .cell∧(∃ c,env.cells.lookup x=some c)∧env.func≠none∧env.cells.Pairwise fun x y=>x.2≠y.2)
 nodup:xs.Nodup
structure SCtx(cx:Cx)(env:Env)(fs cs:List PySem.Str)(m c:Loc)(J:Jm)(H:Hp)(h:Heap):Prop where
 ctx:Ctx cx env fs cs m c J H h
 fr:FrameIs env h
theorem FrameIs.step{env:Env}{J J':Jm}{h h':Heap}(S:Stp J J' h h' noOwn)(out:∀ a,EAddr env a→a∉J)(x:FrameIs env h):FrameIs env h' where
 ns:=let ⟨mm,o,es,ep,e,r⟩:=x.ns;⟨mm,o,es,ep,S.kept (out _ (.inl rfl)) e,r⟩
 cells:=fun hf p hp=>let ⟨ov,o,e,d⟩:=x.cells hf p hp;⟨ov,o,S.kept (out _ (.inr ⟨p.1,hp⟩)) e,d⟩
theorem SCtx.step{cx:Cx}{env:Env}{fs cs:List PySem.Str}{m c:Loc}{J J':Jm}{H H':Hp}{h h':Heap}(X:SCtx cx env fs cs m c J H h)(S:Stp J J' h h' noOwn)(I:Inv cx J' H' h'):SCtx cx env fs cs m c J' H' h':=
 ⟨X.ctx.step S I,X.fr.step S fun a e=>(X.ctx.out a e).1⟩
theorem Ns.notTup{h:Heap}{a:Addr}{mm:PySem.Str→Option Value}(N:h.Ns a mm):∀ its n,h.get? a≠some (tupObj its n):=by
 intro its n e;obtain⟨o,es,ep,q,d,_⟩:=N;rw[e]at q;cases q;cases d
theorem IsCell.notTup{h:Heap}{a:Addr}{ov:Option Value}(N:h.IsCell a ov):∀ its n,h.get? a≠some (tupObj its n):=by
 intro its n e;obtain⟨o,q,d⟩:=N;rw[e]at q;cases q;cases d
theorem IsCell.alive{h:Heap}{a:Addr}{ov:Option Value}(N:h.IsCell a ov):h.get? a≠none:=by obtain⟨o,q,_⟩:=N;rw[q];simp
theorem Ns.alive{h:Heap}{a:Addr}{mm:PySem.Str→Option Value}(N:h.Ns a mm):h.get? a≠none:=by obtain⟨o,_,_,q,_⟩:=N;rw[q];simp
theorem Stp.sameBut{J:Jm}{h h':Heap}{a:Addr}{own:Addr→Prop}(hs:Heap.SameBut a h h')(ho:own a)(ht:∀ its n,h.get? a≠some (tupObj its n))(hal:h'.get? a≠none):Stp J J h h' own:=
 ⟨List.prefix_rfl,fun _ x=> .inl x,fun b o e _ hn=>(hs.2 b fun q=>hn (q ▸ ho)).trans e,fun b its n e=>(hs.2 b fun q=>ht its n (q ▸ e)).trans e,fun b e=>by
  by_cases q:b=a
  ·rw[q];exact hal
  ·rw[hs.2 b q];exact e⟩
section
variable {cx:Cx} {cl:Caller} {n:Nat} {sc:Scope} {fs cs:List PySem.Str} {A:Around} {E':Value→Shared→Prop} {s:Shared} {J:Jm} {H:Hp} {env:Env} {m c:Loc}
theorem st_name{xs:List PySem.Str}{x:PySem.Str}{pos:Pos}{val:Value}{Q:Unit→Shared→Prop}(W:StoreOk env xs)(hx:x∈xs)(F:FrameIs env s.heap)
  (h:∀ h' tk a,Heap.SameBut a s.heap h'→EAddr env a→(env.kindOf x=some .local→a=env.locals)→(∀ its n,s.heap.get? a≠some (tupObj its n))→h'.get? a≠none→VarIs env h' x val→(∀ y w,y≠x→VarIs env s.heap y w→VarIs env h' y w)→FrameIs env h'→Q () { s with heap:=h',toks:=tk }):
  wpAny cx.M A (assign (.Name x pos) env val) Q E' s:=by
 with_reducible refine wpAny_assign_Name ?_
 obtain⟨mm,N⟩:=F.ns;rcases W.kinds x hx with k | ⟨k,⟨c,hc⟩,hfn,ap⟩
 ·refine wpAny_storeName_local k N (fun h' N' hs=>h h' _ env.locals hs (.inl rfl) (fun _=>rfl) (Ns.notTup N) (Ns.alive N') (.inl ⟨k,_,N',by simp⟩) (fun y w hy v=> ?_) ⟨⟨_,N'⟩,fun hf p hp=> ?_⟩) (by rw[W.fn];rfl)
  ·rcases v with⟨ky,my,Ny,q⟩ | ⟨ky,c,l,ic⟩
   ·refine .inl ⟨ky,_,N',?_⟩
    rw[if_neg hy];obtain⟨o,es,ep,e1,e2,_,e3⟩:=N;obtain⟨o2,es2,ep2,f1,f2,_,f3⟩:=Ny;rw[e1]at f1;cases f1;rw[e2]at f2;cases f2;rw[← e3,f3];exact q
   ·exact .inr ⟨ky,c,l,ic.sameBut hs (W.sep _ (mem_of_lookup l))⟩
  ·obtain⟨ov,ic⟩:=F.cells hf p hp
   exact⟨ov,ic.sameBut hs (W.sep p hp)⟩
 ·obtain⟨ov,ic⟩:=F.cells hfn _ (mem_of_lookup hc)
  refine wpAny_storeName_cell W.fn k hc ic fun h' ic' hs=>h h' _ c hs (.inr ⟨x,mem_of_lookup hc⟩) (fun z=>by rw[k]at z;cases z) (IsCell.notTup ic) (IsCell.alive ic') (.inr ⟨.inl k,c,hc,ic'⟩) (fun y w hy v=> ?_) ⟨⟨mm,N.sameBut hs (Ne.symm (W.sep _ (mem_of_lookup hc)))⟩,fun hf p hp=> ?_⟩
  ·rcases v with⟨ky,my,Ny,q⟩ | ⟨ky,c',l,ic2⟩
   ·exact .inl ⟨ky,my,Ny.sameBut hs (Ne.symm (W.sep _ (mem_of_lookup hc))),q⟩
   ·refine .inr ⟨ky,c',l,ic2.sameBut hs fun e=>hy ?_⟩
    subst e;exact name_of_addr ap (mem_of_lookup l) (mem_of_lookup hc)
  ·by_cases q:p.2=c
   ·exact⟨some val,by rw[q];exact ic'⟩
   ·obtain⟨ov2,ic2⟩:=F.cells hf p hp
    exact⟨ov2,ic2.sameBut hs q⟩
def Stored(own:Addr→Prop)(cx:Cx)(env:Env)(fs cs:List PySem.Str)(m c:Loc)(J:Jm)(H:Hp)(s:Shared)(s':Shared):Prop:=
 (∃ h tk,s'={ s with heap:=h,toks:=tk })∧Stp J J s.heap s'.heap own∧SCtx cx env fs cs m c J H s'.heap
theorem Stored.trans{own:Addr→Prop}{m' c' m'' c'':Loc}{s' s'':Shared}(x:Stored own cx env fs cs m' c' J H s s')(y:Stored own cx env fs cs m'' c'' J H s' s''):Stored own cx env fs cs m'' c'' J H s s'':=
 ⟨same_trans x.1 y.1,x.2.1.trans y.2.1,y.2.2⟩
theorem Ctx.store_base{own:Addr→Prop}{h':Heap}{a:Addr}{h:Heap}(X:Ctx cx env fs cs m c J H h)(hs:Heap.SameBut a h h')(ea:EAddr env a)(ho:own a)(ht:∀ its n,h.get? a≠some (tupObj its n))(hal:h'.get? a≠none):
  Inv cx J H h'∧Stp J J h h' own∧(∀ b,EAddr env b→b∉J∧h'.get? b≠none∧cx.hb.get? b=none)∧(∀ v val,Rep J h v val→Rep J h' v val):=by
 have S:Stp J J h h' own:=Stp.sameBut hs ho ht hal;exact⟨X.inv.own hs (X.out a ea).1 (X.out a ea).2.2 ht,S,fun b eb=>⟨(X.out b eb).1,S.alive b (X.out b eb).2.1,(X.out b eb).2.2⟩,fun v val r=>r.mono S⟩
theorem st_fun{i:Nat}{x:PySem.Str}{pos:Pos}{v:AV}{val:Value}{Q:Unit→Shared→Prop}(W:StoreOk env fs)(hi:fs[i]? =some x)(X:SCtx cx env fs [] m [] J H s.heap)(r:Rep J s.heap v val)
  (h:∀ s',Stored (EAddr env) cx env fs [] (m.set i (some v)) [] J H s s'→Q () s'):wpAny cx.M A (assign (.Name x pos) env val) Q E' s:=by
 refine st_name W (List.mem_of_getElem? hi) X.fr fun h' tk a hs ea hloc ht hal hv hy hF=>h _ ?_
 obtain⟨I,S,out,mono⟩:=X.ctx.store_base (own:=EAddr env) hs ea ea ht hal;refine⟨⟨h',tk,rfl⟩,S,⟨I,X.ctx.fn,X.ctx.gl,X.ctx.bi,out,fun j y w hj _ hm=> ?_,fun j y w hj _=>by simp at hj,rfl,X.ctx.cel⟩,hF⟩
 by_cases q:i=j
 ·subst q
  rw[hi]at hj;cases hj;have hlt:i<m.length:=by
   have:=(List.getElem?_eq_some_iff.mp hm).1;rwa [List.length_set]at this
  rw[List.getElem?_set_self hlt]at hm;cases hm;exact⟨val,mono _ _ r,hv⟩
 ·rw[List.getElem?_set_ne q]at hm
  obtain⟨val',r',v'⟩:=X.ctx.fv j y w hj (fun z=>absurd rfl z) hm
  refine⟨val',mono _ _ r',hy y val' (fun e=>q ?_) v'⟩
  subst e;obtain⟨h1,e1⟩:=List.getElem?_eq_some_iff.mp hi;obtain⟨h2,e2⟩:=List.getElem?_eq_some_iff.mp hj;exact (List.getElem_inj W.nodup).mp (e1.trans e2.symm)
theorem st_comp{i:Nat}{x:PySem.Str}{pos:Pos}{v:AV}{val:Value}{Q:Unit→Shared→Prop}(W:StoreOk env cs)(hcs:∀ y∈cs,env.kindOf y=some .local)(hne:cs≠[])(hi:cs[i]? =some x)(X:SCtx cx env fs cs m c J H s.heap)(r:Rep J s.heap v val)
  (h:∀ s',Stored (fun a=>a=env.locals) cx env fs cs m (c.set i (some v)) J H s s'→Q () s'):wpAny cx.M A (assign (.Name x pos) env val) Q E' s:=by
 refine st_name W (List.mem_of_getElem? hi) X.fr fun h' tk a hs ea hloc ht hal hv hy hF=>h _ ?_
 obtain⟨I,S,out,mono⟩:=X.ctx.store_base (own:=fun a=>a=env.locals) hs ea (hloc (hcs x (List.mem_of_getElem? hi))) ht hal
 have hx:=hcs x (List.mem_of_getElem? hi);refine⟨⟨h',tk,rfl⟩,S,⟨I,X.ctx.fn,X.ctx.gl,X.ctx.bi,out,fun j y w hj hf hm=> ?_,fun j y w hj hm=> ?_,by rw[List.length_set];exact X.ctx.len,X.ctx.cel⟩,hF⟩
 ·obtain⟨val',r',v'⟩:=X.ctx.fv j y w hj hf hm
  refine⟨val',mono _ _ r',hy y val' (fun e=> ?_) v'⟩
  subst e;rcases hf hne with z | z<;>rw[hx]at z<;>cases z
 ·by_cases q:i=j
  ·subst q
   rw[hi]at hj;cases hj;have hlt:i<c.length:=by
    have:=(List.getElem?_eq_some_iff.mp hm).1;rwa [List.length_set]at this
   rw[List.getElem?_set_self hlt]at hm;cases hm;exact⟨val,mono _ _ r,hv⟩
  ·rw[List.getElem?_set_ne q]at hm
   obtain⟨val',r',v'⟩:=X.ctx.cv j y w hj hm;refine⟨val',mono _ _ r',hy y val' (fun e=>q ?_) v'⟩
   subst e;obtain⟨h1,e1⟩:=List.getElem?_eq_some_iff.mp hi;obtain⟨h2,e2⟩:=List.getElem?_eq_some_iff.mp hj;exact (List.getElem_inj W.nodup).mp (e1.trans e2.symm)
def namesAt(xs:List PySem.Str):List Nat→List Expr→Bool
 | [],[]=>true
 | i::is,.Name x _::ts=>xs[i]? == some x&&namesAt xs is ts
 | _,_=>false
def tgtAt(xs:List PySem.Str):Tgt→Expr→Bool
 | .one i,.Name x _=>xs[i]? == some x
 | .many is,.Tuple ts _ _=>namesAt xs is ts
 | _,_=>false
theorem namesAt_each:∀ {is:List Nat} {ts:List Expr},namesAt fs is ts=true→(assignEach ts env).length=is.length∧(assignEach ts env).findIdx? (·.1)=none
 | [],[],_=>⟨rfl,rfl⟩
 | i::is,t::ts,h=>by
  cases t<;>first | cases h;done | skip
  rename_i x p;unfold namesAt at h;rw[Bool.and_eq_true]at h;obtain⟨h1,h2⟩:=namesAt_each h.2;have e:assignEach (.Name x p::ts) env=(false,assign (.Name x p) env)::assignEach ts env:=rfl;rw[e];exact⟨by simp[h1],by simp[List.findIdx?_cons,h2]⟩
 | [],_::_,h=>by cases h
 | _::_,[],h=>by cases h
theorem setAll_cons{c:Loc}{i:Nat}{is:List Nat}{v:AV}{vs:List AV}{r:Loc}(h:setAll c (i::is) (v::vs)=some r):setAll (c.set i (some v)) is vs=some r:=by
 unfold setAll at h;split at h
 ·exact h
 ·cases h
theorem stAll_fun(W:StoreOk env fs):∀ {is:List Nat} {ts:List Expr} {vs:List AV} {vals:List Value} {m m':Loc} {s:Shared} {Q:Unit→Shared→Prop},namesAt fs is ts=true→setAll m is vs=some m'→SCtx cx env fs [] m [] J H s.heap→RepL J s.heap vs vals→
  (∀ s',Stored (EAddr env) cx env fs [] m' [] J H s s'→Q () s')→wpAny cx.M A (assignInOrder ((assignEach ts env).map (·.2)) vals) Q E' s
 | [],[],vs,vals,m,m',s,Q,_,hv,X,r,h=>by
  cases vs with
  | nil=>cases hv;exact wpAny_pure (h s ⟨⟨_,_,rfl⟩,Stp.refl _ _ _,X⟩)
  | cons _ _=>cases hv
 | i::is,t::ts,vs,vals,m,m',s,Q,hn,hv,X,r,h=>by
  cases t<;>first | cases hn;done | skip
  rename_i x p;unfold namesAt at hn;rw[Bool.and_eq_true,beq_iff_eq]at hn;cases vs with
  | nil=>cases hv
  | cons v vs=>
   obtain⟨y,ys,rfl,ry,rs⟩:=r;refine assignInOrder_cons (st_fun W hn.1 X ry fun s' hst=> ?_)
   exact stAll_fun W hn.2 (setAll_cons hv) hst.2.2 (rs.mono hst.2.1) fun s'' h2=>h s'' (hst.trans h2)
 | [],_::_,_,_,_,_,_,_,hn,_,_,_,_=>by cases hn
 | _::_,[],_,_,_,_,_,_,hn,_,_,_,_=>by cases hn
theorem stAll_comp(W:StoreOk env cs)(hcs:∀ y∈cs,env.kindOf y=some .local)(hne:cs≠[]):∀ {is:List Nat} {ts:List Expr} {vs:List AV} {vals:List Value} {c c':Loc} {s:Shared} {Q:Unit→Shared→Prop},namesAt cs is ts=true→setAll c is vs=some c'→SCtx cx env fs cs m c J H s.heap→RepL J s.heap vs vals→
  (∀ s',Stored (fun a=>a=env.locals) cx env fs cs m c' J H s s'→Q () s')→wpAny cx.M A (assignInOrder ((assignEach ts env).map (·.2)) vals) Q E' s
 | [],[],vs,vals,m,m',s,Q,_,hv,X,r,h=>by
  cases vs with
  | nil=>cases hv;exact wpAny_pure (h s ⟨⟨_,_,rfl⟩,Stp.refl _ _ _,X⟩)
  | cons _ _=>cases hv
 | i::is,t::ts,vs,vals,m,m',s,Q,hn,hv,X,r,h=>by
  cases t<;>first | cases hn;done | skip
  rename_i x p;unfold namesAt at hn;rw[Bool.and_eq_true,beq_iff_eq]at hn;cases vs with
  | nil=>cases hv
  | cons v vs=>
   obtain⟨y,ys,rfl,ry,rs⟩:=r;refine assignInOrder_cons (st_comp W hcs hne hn.1 X ry fun s' hst=> ?_)
   exact stAll_comp W hcs hne hn.2 (setAll_cons hv) hst.2.2 (rs.mono hst.2.1) fun s'' h2=>h s'' (hst.trans h2)
 | [],_::_,_,_,_,_,_,_,hn,_,_,_,_=>by cases hn
 | _::_,[],_,_,_,_,_,_,hn,_,_,_,_=>by cases hn
theorem ext_size{h h':Heap}(hs:Heap.ExtBut h.objs.size h h'):∀ b o,h.get? b=some o→h'.get? b=some o:=fun b o e=>hs b o (Nat.ne_of_lt (Heap.lt_size e)) e
theorem bind_fun{t:Tgt}{x:Expr}{v:AV}{val:Value}{m':Loc}{Q:Unit→Shared→Prop}(hh:A.handled=none)(W:StoreOk env fs)(ht:tgtAt fs t x=true)(hb:bindT m t v=some m')(X:SCtx cx env fs [] m [] J H s.heap)(r:Rep J s.heap v val)
  (h:∀ s',Stored (EAddr env) cx env fs [] m' [] J H s s'→Q () s'):wpAny cx.M A (assign x env val) Q E' s:=by
 cases t with
 | one i=>
  cases x<;>first | cases ht;done | skip
  unfold tgtAt at ht;rw[beq_iff_eq]at ht;simp only[bindT]at hb;split at hb
  ·cases hb;exact st_fun W ht X r h
  ·cases hb
 | many is=>
  cases x<;>first | cases ht;done | skip
  rename_i ts k p;simp only[bindT]at hb;split at hb
  ·obtain⟨a,its,q,rfl,ho,rl,hz⟩:=r
   obtain⟨l1,l2⟩:=namesAt_each (env:=env) ht;have hlen:=rl.length;have hsl:∀ {c:Loc} {is:List Nat} {vs:List AV} {r:Loc},setAll c is vs=some r→is.length=vs.length:=by
    intro c is;induction is generalizing c with
    | nil=>intro vs r e;cases vs with | nil=>rfl | cons _ _=>cases e
    | cons i is ih=>intro vs r e;cases vs with | nil=>cases e | cons v vs=>simp[ih (setAll_cons e)]
   have:=hsl hb;simp only[Array.length_toList]at hlen;refine wpAny_assign_Tuple hh ⟨_,ho,rfl,_,rfl⟩ (by omega) l2 fun h' hs=> ?_
   have kk:=ext_size hs;have X':SCtx cx env fs [] m [] J H ({ s with heap:=h' }:Shared).heap:=X.step (Stp.of_keeps kk) (X.ctx.inv.keeps kk)
   refine stAll_fun W ht hb X' (rl.mono (Stp.of_keeps (own:=noOwn) kk)) fun s' hst=>h s' ⟨same_trans ⟨_,s.toks,rfl⟩ hst.1,(Stp.of_keeps kk).trans hst.2.1,hst.2.2⟩
  ·cases hb
theorem bind_comp{t:Tgt}{x:Expr}{v:AV}{val:Value}{c':Loc}{Q:Unit→Shared→Prop}(hh:A.handled=none)(W:StoreOk env cs)(hcs:∀ y∈cs,env.kindOf y=some .local)(hne:cs≠[])(ht:tgtAt cs t x=true)(hb:bindT c t v=some c')(X:SCtx cx env fs cs m c J H s.heap)(r:Rep J s.heap v val)
  (h:∀ s',Stored (fun a=>a=env.locals) cx env fs cs m c' J H s s'→Q () s'):wpAny cx.M A (assign x env val) Q E' s:=by
 cases t with
 | one i=>
  cases x<;>first | cases ht;done | skip
  unfold tgtAt at ht;rw[beq_iff_eq]at ht;simp only[bindT]at hb;split at hb
  ·cases hb;exact st_comp W hcs hne ht X r h
  ·cases hb
 | many is=>
  cases x<;>first | cases ht;done | skip
  rename_i ts k p;simp only[bindT]at hb;split at hb
  ·obtain⟨a,its,q,rfl,ho,rl,hz⟩:=r
   obtain⟨l1,l2⟩:=namesAt_each (env:=env) ht;have hlen:=rl.length;have hsl:∀ {c:Loc} {is:List Nat} {vs:List AV} {r:Loc},setAll c is vs=some r→is.length=vs.length:=by
    intro c is;induction is generalizing c with
    | nil=>intro vs r e;cases vs with | nil=>rfl | cons _ _=>cases e
    | cons i is ih=>intro vs r e;cases vs with | nil=>cases e | cons v vs=>simp[ih (setAll_cons e)]
   have:=hsl hb;simp only[Array.length_toList]at hlen;refine wpAny_assign_Tuple hh ⟨_,ho,rfl,_,rfl⟩ (by omega) l2 fun h' hs=> ?_
   have kk:=ext_size hs;have X':SCtx cx env fs cs m c J H ({ s with heap:=h' }:Shared).heap:=X.step (Stp.of_keeps kk) (X.ctx.inv.keeps kk)
   refine stAll_comp W hcs hne ht hb X' (rl.mono (Stp.of_keeps (own:=noOwn) kk)) fun s' hst=>h s' ⟨same_trans ⟨_,s.toks,rfl⟩ hst.1,(Stp.of_keeps kk).trans hst.2.1,hst.2.2⟩
  ·cases hb
end
end Mine
end
section
open PySem PySem.W PyProof.Rows PySem.Calls
namespace Mine
def ItAt(vs:List AV)(gd:Option (Nat × AO))(I:Addr)(i:Nat)(J:Jm)(h:Heap):Prop:=
 (∃ k a,gd=some (k,.list vs)∧J[k]? =some a∧h.IsListIter I a i)∨
 (∃ t its q,gd=none∧h.get? t=some (tupObj its q)∧RepL J h vs its.toList∧h.IsTupleIter I t i)∨
 (∃ k a es,gd=some (k,.dict es)∧es.all isStrKey=true∧vs=es.map (·.1)∧J[k]? =some a∧h.IsKeyIter I a i es.length es.length)∨
 (∃ nn:Nat,gd=none∧nn<lenLid∧vs=(List.range nn).map (fun (j:Nat)=>AV.int j)∧IsRangeIter h I i ((nn:Int) - i) 1)
theorem ItAt.obj{vs:List AV}{gd:Option (Nat × AO)}{I:Addr}{i:Nat}{J:Jm}{h:Heap}(x:ItAt vs gd I i J h):∃ o T fs,h.get? I=some o∧o.cls= .type T∧o.data= .fields fs∧
  ["enumerate","zip","dict_itemiterator","dict_reverseitemiterator","odict_iterator","itertools.zip_longest","itertools.pairwise"].contains T=false:=by
 rcases x with⟨k,a,_,_,o,e,c,d⟩ | ⟨t,its,q,_,_,_,o,e,c,d⟩ | ⟨k,a,es,_,_,_,_,o,e,c,d⟩ | ⟨nn,_,_,_,e⟩
 ·exact⟨o,_,_,e,c,d,by decide⟩
 ·exact⟨o,_,_,e,c,d,by decide⟩
 ·exact⟨o,_,_,e,c,d,by decide⟩
 ·exact⟨_,_,_,e,rfl,rfl,by decide⟩
theorem ItAt.notTup{vs:List AV}{gd:Option (Nat × AO)}{I:Addr}{i:Nat}{J:Jm}{h:Heap}(x:ItAt vs gd I i J h):∀ its n,h.get? I≠some (tupObj its n):=by
 obtain⟨o,T,fs,e,c,d,_⟩:=x.obj;intro its n q;rw[e]at q;cases q;cases d
theorem ItAt.alive{vs:List AV}{gd:Option (Nat × AO)}{I:Addr}{i:Nat}{J:Jm}{h:Heap}(x:ItAt vs gd I i J h):h.get? I≠none:=by
 obtain⟨o,T,fs,e,c,d,_⟩:=x.obj;rw[e];simp
theorem ItAt.ext{vs:List AV}{gd:Option (Nat × AO)}{I:Addr}{i:Nat}{J J':Jm}{h h':Heap}(x:ItAt vs gd I i J h)(p:J <+: J')(t:∀ a its n,h.get? a=some (tupObj its n)→h'.get? a=some (tupObj its n))(e:∀ o,h.get? I=some o→h'.get? I=some o):ItAt vs gd I i J' h':=by
 rcases x with⟨k,a,h1,h2,o,h3,r⟩ | ⟨tt,its,q,h1,h2,h3,o,h4,r⟩ | ⟨k,a,es,h1,h2,h3,h4,o,h5,r⟩ | ⟨nn,h1,h2,h3,h4⟩
 ·exact .inl ⟨k,a,h1,prefix_get p h2,o,e o h3,r⟩
 ·exact .inr (.inl ⟨tt,its,q,h1,t _ _ _ h2,h3.ext p t,o,e o h4,r⟩)
 ·exact .inr (.inr (.inl ⟨k,a,es,h1,h2,h3,prefix_get p h4,o,e o h5,r⟩))
 ·exact .inr (.inr (.inr ⟨nn,h1,h2,h3,e _ h4⟩))
theorem guard_at{H:Hp}{k:Nat}{o:AO}(h:guardOk H (some (k,o))=true):H[k]? =some o:=by
 unfold guardOk at h;exact of_decide_eq_true h
theorem str_pairs{prog:Program}{w:World}{J:Jm}{h:Heap}:∀ {es:List (AV × AV)} {ds:List DictEntry},DRep w J h es ds→es.all isStrKey=true→
  ∃ kvs:List (PySem.Str × Value),Pairs (PySem.strKind prog w) ds kvs∧kvs.length=es.length∧(∀ (i:Nat) k x,kvs[i]? =some (k,x)→∃ s v,es[i]? =some (.str s,v)∧k=⟨s.toArray⟩∧∀ c∈s,c<1114112)∧(∀ e∈ds,∃ k,(PySem.strKind prog w).is k e.key=true∧e.hash=(PySem.strKind prog w).hash k)
 | _,_,.nil,_=>⟨[],.nil,rfl,fun i k x e=>by simp at e,fun e m=>by cases m⟩
 | _,_,.cons (k:=k) (v:=v) (hs:=hs) (key:=key) (val:=val) hk rk rv hh r,ha=>by
  rw[List.all_cons,Bool.and_eq_true]at ha;obtain⟨kvs,p,l,g,ko⟩:=str_pairs (prog:=prog) r ha.2;cases k with
  | str s=>
   obtain⟨hc,t,rfl⟩:=rk;refine⟨(⟨s.toArray⟩,val)::kvs,.cons (PySem.strKind_is prog w _ t) rfl p,by simp[l],fun i k x e=> ?_,fun e m=> ?_⟩
   ·cases i with
    | zero=>simp only[List.getElem?_cons_zero,Option.some.injEq,Prod.mk.injEq]at e;exact⟨s,v,rfl,e.1.symm,hc⟩
    | succ j=>simp only[List.getElem?_cons_succ]at e ⊢;exact g j k x e
   ·cases m with
    | head=>exact ⟨⟨s.toArray⟩,PySem.strKind_is prog w _ t,hh⟩
    | tail _ m=>exact ko e m
  | _=>cases ha.1
theorem nodup_get{α:Type}:∀ {l:List α},l.Nodup→∀ {i j:Nat} {x:α},l[i]? =some x→l[j]? =some x→i=j:=by
 intro l h i j x a b;obtain⟨h1,e1⟩:=List.getElem?_eq_some_iff.mp a;obtain⟨h2,e2⟩:=List.getElem?_eq_some_iff.mp b;exact (List.getElem_inj h).mp (e1.trans e2.symm)
theorem dict_at{cx:Cx}{J:Jm}{H:Hp}{h:Heap}{k:Nat}{a:Addr}{es:List (AV × AV)}(I:Inv cx J H h)(hJ:J[k]? =some a)(hk:H[k]? =some (.dict es))(hs:es.all isStrKey=true):
  ∃ kvs:List (PySem.Str × Value),h.DictAt (PySem.strKind cx.prog cx.w) a kvs es.length∧kvs.length=es.length∧(∀ (i:Nat) k x,kvs[i]? =some (k,x)→∃ s v,es[i]? =some (.str s,v)∧k=⟨s.toArray⟩∧∀ c∈s,c<1114112):=by
 obtain⟨ds,n,ho,D,nd,rfl⟩:=I.rep.obj _ _ _ hk hJ;obtain⟨kvs,p,l,g,ko⟩:=str_pairs (prog:=cx.prog) D hs;refine⟨kvs,⟨_,ds.toArray,ho,⟨rfl,rfl,rfl⟩,rfl,fun e m=>ko e (by simpa using m),by simpa using p,?_⟩,l,g⟩
 refine List.pairwise_iff_getElem.mpr ?_
 intro i j hi hj hij e;rw[List.length_map]at hi hj;have gi:=g i kvs[i].1 kvs[i].2 (by rw[List.getElem?_eq_getElem hi])
 have gj:=g j kvs[j].1 kvs[j].2 (by rw[List.getElem?_eq_getElem hj])
 obtain⟨s1,v1,e1,k1,_⟩:=gi;obtain⟨s2,v2,e2,k2,_⟩:=gj;simp only[List.getElem_map]at e;have:s1=s2:=str_inj (by rw[← k1,← k2,e])
 subst this;have:=nodup_get nd (i:=i) (j:=j) (x:= .str s1) (by rw[List.getElem?_map,e1];rfl) (by rw[List.getElem?_map,e2];rfl)
 omega
section
variable {cx:Cx} {cl:Caller} {n:Nat} {sc:Scope} {fs cs:List PySem.Str} {A:Around} {E':Value→Shared→Prop} {s:Shared} {J:Jm} {H:Hp} {env:Env} {m c:Loc}
theorem it_letGo{vs:List AV}{gd:Option (Nat × AO)}{I:Addr}{i:Nat}{target:Expr}{val:Value}{Q:Unit→Shared→Prop}(x:ItAt vs gd I i J s.heap)(h:Q () s):wpAny cx.M A (letOwnedTupleGo target (.ref I) val) Q E' s:=by
 obtain⟨o,T,fs,e,c,d,hT⟩:=x.obj;have go:∀ a,wpAny cx.M A (do
   let o ← load I
   match o.cls,o.data with
   | .type n,.fields vs=>
    if ["enumerate","zip","dict_itemiterator","dict_reverseitemiterator","odict_iterator","itertools.zip_longest","itertools.pairwise"].contains n&&vs[0]? == some (rawInt a) then
     rule "for.unpacks-the-owned-tuple"
     updateField I 0 .none
   | _,_=>pure ()) Q E' s:=by
  intro a;refine wpAny_bind (wpAny_load e ?_)
  rw[c,d];show wpAny _ A (if (["enumerate","zip","dict_itemiterator","dict_reverseitemiterator","odict_iterator","itertools.zip_longest","itertools.pairwise"].contains T&&fs[0]? == some (rawInt a))=true then _ else _) Q E' s
  rw[hT,Bool.false_and,if_neg Bool.false_ne_true];exact wpAny_pure h
 unfold letOwnedTupleGo;cases target<;>first
  | exact wpAny_pure h
  | (cases val<;>first | exact wpAny_pure h | exact go _)
theorem it_self{vs:List AV}{gd:Option (Nat × AO)}{I:Addr}{i:Nat}{Q:Value→Shared→Prop}(x:ItAt vs gd I i J s.heap)(h:Q (.ref I) s):wpAny cx.M A (pyIter (.ref I)) Q E' s:=by
 rcases x with⟨k,a,_,_,it⟩ | ⟨t,its,q,_,_,_,it⟩ | ⟨k,a,es,_,_,_,_,it⟩ | ⟨nn,_,_,_,it⟩
 ·exact wpAny_pyIter_listiter it h
 ·exact wpAny_pyIter_tupleiter it h
 ·exact wpAny_pyIter_keyiter it h
 ·exact wpAny_pyIter_rangeiter it h
theorem it_item{vs:List AV}{gd:Option (Nat × AO)}{I:Addr}{i:Nat}{v:AV}{Q:Option Value→Shared→Prop}(Iv:Inv cx J H s.heap)(x:ItAt vs gd I i J s.heap)(hg:guardOk H gd=true)(hI:I∉J)(hv:vs[i]? =some v)
  (h:∀ val h' tk,Heap.SameBut I s.heap h'→ItAt vs gd I (i+1) J h'→Rep J h' v val→Q (some val) { s with heap:=h',toks:=tk }):wpAny cx.M A (pyNext (.ref I)) Q E' s:=by
 have nt:=x.notTup;have tt:∀ {h':Heap},Heap.SameBut I s.heap h'→∀ a its n,s.heap.get? a=some (tupObj its n)→h'.get? a=some (tupObj its n):=fun hs a its n e=>(hs.2 a fun q=>nt its n (q ▸ e)).trans e
 rcases x with⟨k,a,h1,h2,it⟩ | ⟨t,its,q,h1,h2,h3,it⟩ | ⟨k,a,es,h1,h2,h3,h4,it⟩ | ⟨nn,h1,h2,h3,it⟩
 ·subst h1
  obtain⟨its,q,ho,rl,hz⟩:=Iv.rep.obj _ _ _ (guard_at hg) h2;obtain⟨val,e,r⟩:=rl.get hv;refine wpAny_pyNext_list_item it ⟨_,ho,rfl,_,rfl⟩ (x:=val) (by simpa using e) fun h' it' hs=> ?_
  exact h val h' s.toks hs (.inl ⟨k,a,rfl,h2,it'⟩) (r.ext List.prefix_rfl (tt hs))
 ·obtain⟨val,e,r⟩:=h3.get hv
  refine wpAny_pyNext_tuple_item it ⟨_,h2,rfl,_,rfl⟩ (x:=val) (by simpa using e) fun h' it' hs=> ?_
  exact h val h' s.toks hs (.inr (.inl ⟨t,its,q,h1,tt hs _ _ _ h2,h3.ext List.prefix_rfl (tt hs),it'⟩)) (r.ext List.prefix_rfl (tt hs))
 ·subst h1
  obtain⟨kvs,D,l,g⟩:=dict_at Iv h4 (guard_at hg) h2;subst h3;rw[List.getElem?_map]at hv;simp only[Option.map_eq_some_iff]at hv;obtain⟨p,hp,rfl⟩:=hv;have hlt:i<kvs.length:=by rw[l];exact (List.getElem?_eq_some_iff.mp hp).1
  have hx:kvs[i]? =some (kvs[i].1,kvs[i].2):=by rw[List.getElem?_eq_getElem hlt]
  obtain⟨sn,v2,e2,k2,hc⟩:=g i _ _ hx;rw[hp]at e2;cases e2;refine wpAny_pyNext_dict_item (knd:=PySem.strKind cx.prog cx.w) (ep:=es.length) (by rw[l];exact it) D hx fun key h' hk it' hs=> ?_
  have hk':Value.isStrOf kvs[i].1 key=true:=hk;obtain⟨t,rfl⟩:=Value.isStrOf_shape hk';rw[k2]at hk' ⊢;exact h _ h' s.toks hs (.inr (.inr (.inl ⟨k,a,es,rfl,h2,rfl,h4,by rw[l]at it';exact it'⟩))) ⟨hc,t,rfl⟩
 ·have hlt:=(List.getElem?_eq_some_iff.mp hv).1
  rw[h3]at hlt hv;simp only[List.length_map,List.length_range]at hlt;rw[List.getElem?_map,List.getElem?_range hlt]at hv;cases hv;refine wpAny_pyNext_range_item it (by omega) fun h' it' hs=> ?_
  refine h _ h' _ hs (.inr (.inr (.inr ⟨nn,h1,h2,h3,?_⟩))) ⟨_,rfl⟩
  have e1:((i+1:Nat):Int)=(i:Int)+1:=by omega
  have e2:(nn:Int) - ((i+1:Nat):Int)=(nn:Int) - i - 1:=by omega
  rw[e2,e1];exact it'
theorem it_end{vs:List AV}{gd:Option (Nat × AO)}{I:Addr}{i:Nat}{Q:Option Value→Shared→Prop}(hh:A.handled=none)(Iv:Inv cx J H s.heap)(x:ItAt vs gd I i J s.heap)(hg:guardOk H gd=true)(hv:vs.length≤i)
  (h:∀ h' tk,Heap.ExtBut I s.heap h'→Q none { s with heap:=h',toks:=tk }):wpAny cx.M A (pyNext (.ref I)) Q E' s:=by
 rcases x with⟨k,a,h1,h2,it⟩ | ⟨t,its,q,h1,h2,h3,it⟩ | ⟨k,a,es,h1,h2,h3,h4,it⟩ | ⟨nn,h1,h2,h3,it⟩
 ·subst h1
  obtain⟨its,q,ho,rl,hz⟩:=Iv.rep.obj _ _ _ (guard_at hg) h2;have hl:=rl.length;simp only[Array.length_toList]at hl;exact wpAny_pyNext_list_end hh it ⟨_,ho,rfl,_,rfl⟩ (by rw[Array.getElem?_eq_none];omega) fun h' hs=>h h' s.toks hs
 ·have hl:=h3.length
  simp only[Array.length_toList]at hl;exact wpAny_pyNext_tuple_end hh it ⟨_,h2,rfl,_,rfl⟩ (by rw[Array.getElem?_eq_none];omega) fun h' hs=>h h' s.toks hs
 ·subst h1
  obtain⟨kvs,D,l,g⟩:=dict_at Iv h4 (guard_at hg) h2;subst h3;rw[List.length_map]at hv;exact wpAny_pyNext_dict_end (knd:=PySem.strKind cx.prog cx.w) (ep:=es.length) hh (by rw[l];exact it) D (by rw[List.getElem?_eq_none];omega) fun h' hs=>h h' s.toks hs
 ·subst h3
  simp only[List.length_map,List.length_range]at hv;exact wpAny_pyNext_range_end hh it (by omega) fun h' hs=>h h' s.toks hs
def IterReady(cx:Cx)(A:Around)(E':Value→Shared→Prop)(vs:List AV)(gd:Option (Nat × AO))(J:Jm)(xv:Value)(s:Shared):Prop:=
 ∀ Q:Value→Shared→Prop,(∀ I h',I=s.heap.objs.size→(∀ b o,s.heap.get? b=some o→h'.get? b=some o)→ItAt vs gd I 0 J h'→Q (.ref I) { s with heap:=h' })→wpAny cx.M A (pyIter xv) Q E' s
def SI(cx:Cx)(cl:Caller)(n:Nat)(sc:Scope)(fs cs:List PySem.Str)(rng:Bool)(e:E)(x:Expr):Prop:=
 ∀ (env:Env) (A:Around) (s:Shared) (J:Jm) (H:Hp) (m c:Loc) (y:AV) (H':Hp) (vs:List AV) (gd:Option (Nat × AO)) (Q:Value→Shared→Prop) (E':Value→Shared→Prop),env.scope=sc→AOk A n→Ctx cx env fs cs m c J H s.heap→
  evE cl e m c H=some (y,H')→itemsOf H' rng y=some (vs,gd)→
  (∀ xv s' J',(∃ h tk,s'={ s with heap:=h,toks:=tk })→Stp J J' s.heap s'.heap noOwn→Inv cx J' H' s'.heap→IterReady cx A E' vs gd J' xv s'→Q xv s')→wpAny cx.M A (eval x env) Q E' s
theorem SI.plain{e:E}{x:Expr}(he:SE cx cl n sc fs cs e x):SI cx cl n sc fs cs false e x:=by
 intro env A s J H m c y H' vs gd Q E' hs hA X e1 e2 h;refine he.one hs hA X e1 fun va s' J' sm S X' ra=>h va s' J' sm S X'.inv ?_
 intro Q2 hQ;have Iv:=X'.inv;unfold itemsOf at e2;split at e2
 ·contradiction
 ·cases e2
  obtain⟨a,its,q,rfl,ho,rl,hz⟩:=ra;have kk:∀ b o,s'.heap.get? b=some o→(s'.heap.push { cls:= .type "tuple_iterator",data:= .fields #[.ref a,.int 0 0] }).get? b=some o:=fun b o e=>Heap.get?_push_of_some _ e
  refine wpAny_pyIter_tuple ⟨_,ho,rfl,_,rfl⟩ (hQ _ _ rfl kk (.inr (.inl ⟨a,its,q,rfl,kk _ _ ho,rl.mono (Stp.of_keeps (own:=noOwn) kk),_,Heap.get?_push_size _ rfl,rfl,rfl⟩)))
 ·rename_i k _
  obtain⟨a,hJ,rfl⟩:=ra;split at e2
  ·rename_i vs hk
   cases e2;obtain⟨its,q,ho,rl,hz⟩:=Iv.rep.obj _ _ _ hk hJ;have kk:∀ b o,s'.heap.get? b=some o→(s'.heap.push { cls:= .type "list_iterator",data:= .fields #[.ref a,.int 0 0] }).get? b=some o:=fun b o e=>Heap.get?_push_of_some _ e
   exact wpAny_pyIter_list ⟨_,ho,rfl,_,rfl⟩ (hQ _ _ rfl kk (.inl ⟨k,a,rfl,hJ,_,Heap.get?_push_size _ rfl,rfl,rfl⟩))
  ·rename_i es hk
   split at e2
   ·rename_i hstr
    cases e2;obtain⟨kvs,D,l,g⟩:=dict_at Iv hJ hk hstr;refine wpAny_pyIter_dict (knd:=PySem.strKind cx.prog cx.w) (Iv.notSys hJ) D ?_
    rw[l];exact hQ _ _ rfl (fun b o e=>Heap.get?_push_of_some _ e) (.inr (.inr (.inl ⟨k,a,es,rfl,hstr,rfl,hJ,_,Heap.get?_push_size _ rfl,rfl,rfl⟩)))
   ·cases e2
  ·cases e2
 ·cases e2
theorem SI.range(hC:CxOk cx){e:E}{xe:Expr}{id:PySem.Str}{p pos:Pos}(hk:sc.names.lookup id=some .globalImplicit)(hd:(id == ("__debug__" :PySem.Str))=false)(hg:cx.mg id=none∧bootBuiltins id=some (.type "range")∧id≠ "__name__")
  (he:SE cx cl n sc fs cs e xe) (hx:notStar xe=true):SI cx cl n sc fs cs true e (.Call (.Name id p) [xe] [] pos):=by
 intro env A s J H m c y H' vs gd Q E' hs hA X e1 e2 h;refine Call_ (r_builtin hC X (by subst hs;exact hk) hg.1 hg.2.1 hg.2.2 hd ?_)
 have hev:evL cl [e] m c H=some ([y],H'):=by
  unfold evL evL;rw[e1];rfl
 refine r_callB rfl (SL.cons he SL.nil hx) (by rw[List.all_cons,hx];rfl) hs hA X hev fun vals s' p=> ?_
 obtain⟨sm,J',S,Iv,r⟩:=p;obtain⟨va,_,rfl,ry,rfl⟩:=r;unfold itemsOf at e2;split at e2
 ·rename_i nI _
  split at e2
  ·rename_i hz
   cases e2;obtain⟨t,rfl⟩:=ry;refine call_range_1 ?_
   have kk:∀ b o,s'.heap.get? b=some o→(s'.heap.push { cls:= .type "range",data:= .fields #[.int 0 s'.toks,.int nI t,.int 1 (s'.toks+1)] }).get? b=some o:=fun b o e=>Heap.get?_push_of_some _ e
   refine h _ _ J' (same_trans sm ⟨_,_,rfl⟩) (S.trans (Stp.of_keeps kk)) (Iv.keeps kk) ?_
   intro Q2 hQ;have hz':(nI:Int)<1048576:=by have:(lenLid:Int)=1048576:=rfl;omega
   refine wpAny_pyIter_range (IsRange.new ..) ?_ ?_
   ·exact small_one (by decide) (by decide) (by omega) (by omega)
   ·rw[rangeSize_one]
    refine hQ _ _ rfl (fun b o e=>Heap.get?_push_of_some _ e) (.inr (.inr (.inr ⟨nI.toNat,rfl,by have:(lenLid:Int)=1048576:=rfl;have:lenLid=1048576:=rfl;omega,rfl,?_⟩)))
    have:(if (0:Int)<nI then nI - 0 else 0)=(nI.toNat:Int) - ((0:Nat):Int):=by split<;>omega
    rw[this];exact Heap.get?_push_size _ rfl
  ·cases e2
 all_goals first | contradiction | (cases e2;done) | skip
end
end Mine
end
section
open PySem PySem.W PyProof.Rows PySem.Calls
namespace Mine
theorem Inv.extBut{cx:Cx}{J:Jm}{H:Hp}{h h':Heap}{I:Addr}(Iv:Inv cx J H h)(hs:Heap.ExtBut I h h')(hJ:I∉J)(hb:cx.hb.get? I=none)(ht:∀ its n,h.get? I≠some (tupObj its n)):Inv cx J H h':=by
 have T:∀ b its n,h.get? b=some (tupObj its n)→h'.get? b=some (tupObj its n):=fun b its n e=>hs b _ (fun q=>ht its n (q ▸ e)) e
 refine⟨⟨Iv.rep.len,Iv.rep.nodup,fun i o b e q=> ?_⟩,fun b o e=>hs b o (fun q=>by rw[← q,e]at hb;cases hb) (Iv.base b o e),Iv.above,Iv.stat,Iv.sys⟩
 exact (Iv.rep.obj i o b e q).ext List.prefix_rfl T fun ob z=>hs b ob (fun w=>hJ (w ▸ mem_of_get q)) z
theorem VarIs.extBut{env:Env}{h h':Heap}{I:Addr}{x:PySem.Str}{val:Value}(hs:Heap.ExtBut I h h')(out:¬ EAddr env I)(v:VarIs env h x val):VarIs env h' x val:=by
 rcases v with⟨k,mm,⟨o,es,ep,e,r⟩,q⟩ | ⟨k,c,l,o,e,d⟩
 ·exact .inl ⟨k,mm,⟨o,es,ep,hs _ _ (fun z=>out (.inl z.symm)) e,r⟩,q⟩
 ·exact .inr ⟨k,c,l,o,hs _ _ (fun z=>out (.inr ⟨x,z ▸ mem_of_lookup l⟩)) e,d⟩
theorem SCtx.extBut{cx:Cx}{env:Env}{fs cs:List PySem.Str}{m c:Loc}{J:Jm}{H:Hp}{h h':Heap}{I:Addr}(X:SCtx cx env fs cs m c J H h)(hs:Heap.ExtBut I h h')(hJ:I∉J)(hb:cx.hb.get? I=none)(ht:∀ its n,h.get? I≠some (tupObj its n))(out:¬ EAddr env I):SCtx cx env fs cs m c J H h':=by
 have T:∀ b its n,h.get? b=some (tupObj its n)→h'.get? b=some (tupObj its n):=fun b its n e=>hs b _ (fun q=>ht its n (q ▸ e)) e
 have al:∀ a,EAddr env a→h'.get? a≠none:=fun a ea=>by
  cases q:h.get? a with
  | none=>exact absurd q (X.ctx.out a ea).2.1
  | some o=>rw[hs a o (fun z=>out (z ▸ ea)) q];simp
 refine⟨⟨X.ctx.inv.extBut hs hJ hb ht,X.ctx.fn,X.ctx.gl,X.ctx.bi,fun a ea=>⟨(X.ctx.out a ea).1,al a ea,(X.ctx.out a ea).2.2⟩,fun i x v hx hf hm=> ?_,fun i x v hx hm=> ?_,X.ctx.len,X.ctx.cel⟩,?_,fun hf p hp=> ?_⟩
 ·obtain⟨val,r,q⟩:=X.ctx.fv i x v hx hf hm
  exact⟨val,r.ext List.prefix_rfl T,q.extBut hs out⟩
 ·obtain⟨val,r,q⟩:=X.ctx.cv i x v hx hm
  exact⟨val,r.ext List.prefix_rfl T,q.extBut hs out⟩
 ·obtain⟨mm,o,es,ep,e,r⟩:=X.fr.ns
  exact⟨mm,o,es,ep,hs _ _ (fun z=>out (.inl z.symm)) e,r⟩
 ·obtain⟨ov,o,e,d⟩:=X.fr.cells hf p hp
  exact⟨ov,o,hs _ _ (fun z=>out (.inr ⟨p.1,z ▸ hp⟩)) e,d⟩
theorem Stp.extBut{J J':Jm}{h h1 h':Heap}{own:Addr→Prop}{I:Addr}(S:Stp J J' h h1 own)(hs:Heap.ExtBut I h1 h')(hI:h.get? I=none):Stp J J' h h' own where
 pre:=S.pre
 new:=S.new
 keep:=fun b o e hJ ho=>hs b o (fun q=>by rw[q,hI]at e;cases e) (S.keep b o e hJ ho)
 tup:=fun b its n e=>hs b _ (fun q=>by rw[q,hI]at e;cases e) (S.tup b its n e)
 alive:=fun b e=>by
  have:=S.alive b e;cases q:h1.get? b with
  | none=>exact absurd q this
  | some o=>rw[hs b o (fun z=>e (z ▸ hI)) q];simp
def ownC(env:Env)(D:Addr)(a:Addr):Prop:=a=env.locals∨a=D
def outC(env:Env)(D:Addr)(a:Addr):Prop:=EAddr env a∨a=D
theorem outC.own{env:Env}{D a:Addr}(h:¬ outC env D a):¬ ownC env D a:=fun x=>h (x.elim (fun y=> .inl (.inl y)) .inr)
structure CSt(cx:Cx)(env:Env)(fs cs:List PySem.Str)(m c:Loc)(D:Addr)(avs:List AV)(J:Jm)(H:Hp)(h:Heap):Prop where
 sctx:SCtx cx env fs cs m c J H h
 accJ:D∉J
 accB:cx.hb.get? D=none
 accL:¬ EAddr env D
 acc:∃ its q,h.get? D=some (listOf its q)∧RepL J h avs its.toList∧its.size≤2097152
theorem listOf_notTup{its its':Array Value}{q q':Nat}:listOf its q≠tupObj its' q':=by
 intro e;injection e with e;injection e with e;exact absurd e (by decide)
theorem CSt.step{cx:Cx}{env:Env}{fs cs:List PySem.Str}{m c:Loc}{D:Addr}{avs:List AV}{J J':Jm}{H H':Hp}{h h':Heap}(X:CSt cx env fs cs m c D avs J H h)(S:Stp J J' h h' noOwn)(I:Inv cx J' H' h'):CSt cx env fs cs m c D avs J' H' h':=by
 obtain⟨its,q,e,r,z⟩:=X.acc;refine⟨X.sctx.step S I,fun w=>(S.new D w).elim X.accJ (fun y=>by rw[e]at y;cases y),X.accB,X.accL,its,q,S.kept X.accJ e,r.mono S,z⟩
theorem CSt.extBut{cx:Cx}{env:Env}{fs cs:List PySem.Str}{m c:Loc}{D:Addr}{avs:List AV}{J:Jm}{H:Hp}{h h':Heap}{I:Addr}(X:CSt cx env fs cs m c D avs J H h)(hs:Heap.ExtBut I h h')(hJ:I∉J)(hb:cx.hb.get? I=none)(ht:∀ its n,h.get? I≠some (tupObj its n))(out:¬ outC env D I):CSt cx env fs cs m c D avs J H h':=by
 have T:∀ b its n,h.get? b=some (tupObj its n)→h'.get? b=some (tupObj its n):=fun b its n e=>hs b _ (fun q=>ht its n (q ▸ e)) e
 obtain⟨its,q,e,r,z⟩:=X.acc;exact⟨X.sctx.extBut hs hJ hb ht fun w=>out (.inl w),X.accJ,X.accB,X.accL,its,q,hs _ _ (fun w=>out (.inr w.symm)) e,r.ext List.prefix_rfl T,z⟩
def CPost(cx:Cx)(env:Env)(fs cs:List PySem.Str)(m c':Loc)(D:Addr)(avs':List AV)(J:Jm)(H':Hp)(s s':Shared):Prop:=
 (∃ h tk,s'={ s with heap:=h,toks:=tk })∧∃ J',Stp J J' s.heap s'.heap (ownC env D)∧CSt cx env fs cs m c' D avs' J' H' s'.heap
def compEmit(elt:Expr)(acc:Value)(env:Env):Sem Unit:=do
 let _ ← call (.builtin "list.append") [acc,← eval elt env]
def compAct(eC elt:Expr)(gens:List Comprehension)(d:Nat)(acc:Value)(env:Env)(kc:Sem PySem.Fin):Sem PySem.Fin:=
 match gens[d]? with
 | some g'=>do
  let x ← eval g'.iter env
  standAt g'.iter.pos
  if (g'.is_async != 0)=true then do
    let x ← foldedIterable g'.iter x
    let it ← holding [x] (if (g'.is_async != 0)=true then asyncIter x else pyIter x)
    let _ ← runOwn (.compStart eC d it acc env) env
    kc
   else do
    let x ← foldedSetIterable g'.iter env x
    let it ← holding [x] (if (g'.is_async != 0)=true then asyncIter x else pyIter x)
    let _ ← runOwn (.compStart eC d it acc env) env
    kc
 | none=>compEmit elt acc env >>= fun _=>kc
def compIf(env:Env)(c:Expr)(r:Bool):Sem (ForInStep Bool):=if r=true then do
  let ok ← PySem.isTrue c env (eval c env)
  pure (ForInStep.yield ok)
 else pure (ForInStep.yield r)
section
variable {cx:Cx} {cl:Caller} {n:Nat} {sc:Scope} {fs cs:List PySem.Str} {A:Around} {E':Value→Shared→Prop} {s:Shared} {J:Jm} {H:Hp} {env:Env} {m c:Loc}
theorem ifs_false:∀ (ifs:List Expr) {Q:Bool→Shared→Prop},Q false s→wpAny cx.M A (forIn ifs false (compIf env)) Q E' s
 | [],Q,h=>by rw[List.forIn_nil];exact wpAny_pure h
 | i::r,Q,h=>by
  rw[List.forIn_cons];unfold compIf;rw[if_neg Bool.false_ne_true];exact wpAny_bind (wpAny_pure (ifs_false r h))
theorem ifs_cons{i:Expr}{r:List Expr}{Q:Bool→Shared→Prop}(h:wpAny cx.M A (PySem.isTrue i env (eval i env)) (fun ok s1=>wpAny cx.M A (forIn r ok (compIf env)) Q E' s1) E' s):wpAny cx.M A (forIn (i::r) true (compIf env)) Q E' s:=by
 rw[List.forIn_cons];show wpAny cx.M A ((do
  let ok ← PySem.isTrue i env (eval i env)
  pure (ForInStep.yield ok)) >>= _) Q E' s
 refine wpAny_bind (wpAny_bind (wpAny_mono h (fun ok s1 h1=>wpAny_pure h1) fun _ _ x=>x))
def SG(cx:Cx)(cl:Caller)(n:Nat)(sc:Scope)(fs cs:List PySem.Str)(eC elt:Expr)(gens:List Comprehension)(d:Nat)(g:G)(ifs:List Expr):Prop:=
 ∀ (env:Env) (A:Around) (s:Shared) (J:Jm) (H:Hp) (m c:Loc) (D:Addr) (avs:List AV) (c':Loc) (H':Hp) (avs':List AV) (kc:Sem PySem.Fin) (Q:PySem.Fin→Shared→Prop) (E':Value→Shared→Prop),env.scope=sc→AOk A n→StoreOk env cs→(∀ y∈cs,env.kindOf y=some .local)→cs≠[]→
  CSt cx env fs cs m c D avs J H s.heap→evG cl g m c H avs=some (c',H',avs')→(∀ s',CPost cx env fs cs m c' D avs' J H' s s'→wpAny cx.M A kc Q E' s')→
  wpAny cx.M A (forIn ifs true (compIf env)) (fun ok s1=>wpAny cx.M A (if ok=true then compAct eC elt gens d (.ref D) env kc else kc) Q E' s1) E' s
theorem CSt.same{D:Addr}{avs:List AV}{H':Hp}{s':Shared}{J':Jm}(sm:∃ h tk,s'={ s with heap:=h,toks:=tk })(S:Stp J J' s.heap s'.heap noOwn)(X:CSt cx env fs cs m c D avs J' H' s'.heap):CPost cx env fs cs m c D avs J H' s s':=
 ⟨sm,J',S.weaken fun _ x=>x.elim,X⟩
theorem CPost.trans{D:Addr}{avs:List AV}{c':Loc}{H':Hp}{s' s'':Shared}{J':Jm}(sm:∃ h tk,s'={ s with heap:=h,toks:=tk })(S:Stp J J' s.heap s'.heap (ownC env D))(p:CPost cx env fs cs m c' D avs J' H' s' s''):CPost cx env fs cs m c' D avs J H' s s'':=
 let ⟨sm2,J2,S2,X⟩:=p;⟨same_trans sm sm2,J2,S.trans S2,X⟩
theorem SG.if_{eC elt:Expr}{gens:List Comprehension}{d:Nat}{e:E}{g:G}{i:Expr}{ifs:List Expr}(h1:ST cx cl n sc fs cs e i)(h2:SG cx cl n sc fs cs eC elt gens d g ifs):SG cx cl n sc fs cs eC elt gens d (.if_ e g) (i::ifs):=by
 intro env A s J H m c D avs c' H' avs' kc Q E' hs hA W hcs hne X e0 h;unfold evG at e0;simp only[Option.bind_eq_bind,Option.bind_eq_some_iff,Prod.exists]at e0;obtain⟨v,H1,e1,t,e2,e3⟩:=e0;refine ifs_cons (h1 env A s J H m c v H1 t _ _ hs hA X.sctx.ctx e1 e2 fun s' p=> ?_)
 obtain⟨sm,J',S,I,_⟩:=p;have X':=X.step S I;cases t with
 | true=>
  rw[if_pos rfl]at e3;exact h2 env A s' J' H1 m c D avs c' H' avs' kc Q E' hs hA W hcs hne X' e3 fun s'' p=>h s'' (p.trans sm (S.weaken fun _ x=>x.elim))
 | false=>
  rw[if_neg Bool.false_ne_true]at e3;cases e3;exact ifs_false ifs (by rw[if_neg Bool.false_ne_true];exact h s' (CSt.same sm S X'))
theorem SG.elt{eC:Expr}{gens:List Comprehension}{d:Nat}{e:E}{x:Expr}(h1:SE cx cl n sc fs cs e x)(hd:gens[d]? =none):SG cx cl n sc fs cs eC x gens d (.elt e) []:=by
 intro env A s J H m c D avs c' H' avs' kc Q E' hs hA W hcs hne X e0 h;unfold evG at e0;simp only[Option.bind_eq_bind,Option.bind_eq_some_iff,Prod.exists]at e0;obtain⟨v,H1,e1,e3⟩:=e0;split at e3
 ·rename_i hz
  cases e3;rw[List.forIn_nil];refine wpAny_pure ?_
  rw[if_pos rfl];unfold compAct compEmit;rw[hd];refine wpAny_bind (wpAny_bind (h1.one hs hA X.sctx.ctx e1 fun va s' J' sm S X' ra=> ?_))
  have XC:=X.step S X'.inv;obtain⟨its,q,ho,r,z⟩:=XC.acc;have hlen:=r.length;simp only[Array.length_toList]at hlen;have z1:=zLen;have z2:=zSize;refine wpAny_bind ?_
  with_reducible refine append_at ho (fun h' hs' ee=> ?_) (by omega)
  refine wpAny_pure (h _ ?_)
  have nt:∀ its' n',s'.heap.get? D≠some (tupObj its' n'):=fun its' n' w=>by rw[ho]at w;exact listOf_notTup (Option.some.inj w)
  have T:∀ b its n,s'.heap.get? b=some (tupObj its n)→h'.get? b=some (tupObj its n):=fun b its n e=>(hs'.2 b fun q=>nt its n (q ▸ e)).trans e
  have S':Stp J' J' s'.heap h' (ownC env D):=Stp.sameBut hs' (.inr rfl) nt (by rw[ee];simp)
  refine⟨same_trans sm ⟨h',s'.toks,rfl⟩,J',(S.weaken fun _ x=>x.elim).trans S',XC.sctx.extBut hs'.extBut XC.accJ XC.accB nt XC.accL,XC.accJ,XC.accB,XC.accL,_,_,ee,?_,?_⟩
  ·rw[Array.toList_push];exact (r.ext List.prefix_rfl T).append ⟨va,[],rfl,ra.ext List.prefix_rfl T,rfl⟩
  ·rw[Array.size_push];omega
 ·cases e3
theorem comp_loop{eC elt:Expr}{scope:Scope}{pos:Pos}{gens:List Comprehension}{d:Nat}{target iter:Expr}{ifs:List Expr}{t:Tgt}{g:G}(heC:eC= .ListComp elt gens scope pos)(hg:gens[d]? =some ⟨target,iter,ifs,0⟩)(ht:tgtAt cs t target=true)
  (hG:SG cx cl n sc fs cs eC elt gens (d+1) g ifs) {vs:List AV} {gd:Option (Nat × AO)} {I D:Addr} {res:Loc × Hp × List AV} {R:Result→Shared→Prop} {Jb:Jm} {sb:Shared}
  (hs:env.scope=sc) (hA:AOk A n) (W:StoreOk env cs) (hcs:∀ y∈cs,env.kindOf y=some .local) (hne:cs≠[]) (hb:cx.hb.get? I=none) (hsb:sb.heap.get? I=none) (hIo:¬ outC env D I)
  (hR:∀ s',CPost cx env fs cs m res.1 D res.2.2 Jb res.2.1 sb s'→R (.ok .next) s'):
  ∀ (k:Nat) (i:Nat) (s:Shared) (J:Jm) (H:Hp) (c:Loc) (avs:List AV),k=vs.length - i→(∃ h tk,s={ sb with heap:=h,toks:=tk })→Stp Jb J sb.heap s.heap (ownC env D)→CSt cx env fs cs m c D avs J H s.heap→I∉J→ItAt vs gd I i J s.heap→
   loopIt (fun s=>s.2.1) gd (fun (s:Loc × Hp × List AV) v=>do
    let c' ← bindT s.1 t v
    evG cl g m c' s.2.1 s.2.2) (vs.drop i) (c,H,avs)=some res→codeAny cx.M A (.compLoop eC d (.ref I) (.ref D) env) R s:=by
 subst heC;intro k i s J H c avs hk sm S X hI hit hl;refine codeAny_loop rfl (fun k s=>∃ (i:Nat) (J:Jm) (H:Hp) (c:Loc) (avs:List AV),k=vs.length - i∧(∃ h tk,s={ sb with heap:=h,toks:=tk })∧Stp Jb J sb.heap s.heap (ownC env D)∧CSt cx env fs cs m c D avs J H s.heap∧I∉J∧ItAt vs gd I i J s.heap∧
   loopIt (fun s=>s.2.1) gd (fun (s:Loc × Hp × List AV) v=>do
    let c' ← bindT s.1 t v
    evG cl g m c' s.2.1 s.2.2) (vs.drop i) (c,H,avs)=some res) ?_ k ⟨i,J,H,c,avs,hk,sm,S,X,hI,hit,hl⟩
 rintro k s ⟨i,J,H,c,avs,hk,sm,S,X,hI,hit,hl⟩
 show wpAny _ A ((compTurn (.ListComp elt gens scope pos) d (.ref I) (.ref D) env).onRaise (fun x=>do noteFrame x env;theTreesLotGoes x)) _ _ s
 refine wpAny_noted ?_
 unfold compTurn;simp only[hg];refine wpAny_bind (wpAny_standAt ?_)
 rw[if_neg (by decide)]
 by_cases hlt:i<vs.length
 ·rw[List.drop_eq_getElem_cons hlt]at hl
  unfold loopIt at hl;split at hl
  ·rename_i hgd
   split at hl
   ·rename_i st2 hf
    simp only[Option.bind_eq_bind,Option.bind_eq_some_iff]at hf;obtain⟨c1,hb1,hf⟩:=hf;refine wpAny_bind (it_item X.sctx.ctx.inv hit hgd hI (List.getElem?_eq_getElem hlt) fun val h' tk hs' it' rv=> ?_)
    have nt:=hit.notTup;have X1:CSt cx env fs cs m c D avs J H h':=X.extBut hs'.extBut hI hb nt hIo;have S1:Stp Jb J sb.heap h' (ownC env D):=S.extBut hs'.extBut hsb;refine wpAny_bind (it_letGo (s:={ s with heap:=h',toks:=tk }) it' ?_)
    refine wpAny_bind (bind_comp (s:={ s with heap:=h',toks:=tk }) hA.hh W hcs hne ht hb1 X1.sctx rv fun s2 hst=> ?_)
    obtain⟨sm2,S2,X2⟩:=hst;obtain⟨its,q,ho,r,z⟩:=X1.acc;have XC:CSt cx env fs cs m c1 D avs J H s2.heap:=⟨X2,X1.accJ,X1.accB,X1.accL,its,q,S2.keep _ _ ho X1.accJ (fun w=>X1.accL (.inl w)),r.mono S2,z⟩
    have it2:ItAt vs gd I (i+1) J s2.heap:=it'.ext List.prefix_rfl S2.tup fun o e=>S2.keep _ _ e hI fun w=>hIo (.inl (.inl w))
    have S3:Stp Jb J sb.heap s2.heap (ownC env D):=S1.trans (S2.weaken fun _ w=> .inl w)
    refine wpAny_bind ?_
    show wpAny cx.M A (forIn ifs true (compIf env)) (fun ok s1=>wpAny cx.M A (if ok=true then compAct (.ListComp elt gens scope pos) elt gens (d+1) (.ref D) env (again (.compLoop (.ListComp elt gens scope pos) d (.ref I) (.ref D) env)) else again (.compLoop (.ListComp elt gens scope pos) d (.ref I) (.ref D) env)) _ _ s1) _ s2
    refine hG env A s2 J H m c1 D avs st2.1 st2.2.1 st2.2.2 (again (.compLoop (.ListComp elt gens scope pos) d (.ref I) (.ref D) env)) _ _ hs hA W hcs hne XC hf ?_
    rintro s4 ⟨sm4,J4,S4,X4⟩
    refine wpAny_pure ⟨rfl,vs.length - (i+1),by omega,i+1,J4,st2.2.1,st2.1,st2.2.2,rfl,same_trans sm (same_trans ⟨_,_,rfl⟩ (same_trans sm2 sm4)),S3.trans S4,X4,fun w=>(S4.new I w).elim hI (it2.alive ·),?_,hl⟩
    exact it2.ext S4.pre S4.tup fun o e=>S4.keep _ _ e hI (outC.own hIo)
   ·cases hl
  ·cases hl
 ·have hge:vs.length≤i:=Nat.not_lt.mp hlt
  rw[List.drop_eq_nil_of_le hge]at hl;unfold loopIt at hl;split at hl
  ·rename_i hgd
   cases hl;refine wpAny_bind (it_end hA.hh X.sctx.ctx.inv hit hgd hge fun h' tk hs'=> ?_)
   refine wpAny_pure (hR _ ⟨same_trans sm ⟨h',tk,rfl⟩,J,S.extBut hs' hsb,X.extBut hs' hI hb hit.notTup hIo⟩)
  ·cases hl
end
end Mine
end
section
open PySem PySem.W PyProof.Rows PySem.Calls
namespace Mine
section
variable {cx:Cx} {cl:Caller} {n:Nat} {sc:Scope} {fs cs:List PySem.Str} {A:Around} {E':Value→Shared→Prop} {s:Shared} {J:Jm} {H:Hp} {env:Env} {m c:Loc}
theorem comp_start{elt target iter:Expr}{gens:List Comprehension}{ifs:List Expr}{scope:Scope}{pos:Pos}{d:Nat}{it acc:Value}{R:Result→Shared→Prop}(hg:gens[d]? =some ⟨target,iter,ifs,0⟩)
  (h0:codeAny cx.M A (.compLoop (.ListComp elt gens scope pos) d it acc env) R s)
  (h:wpAny cx.M A (pyIter it) (fun it' s'=>codeAny cx.M A (.compLoop (.ListComp elt gens scope pos) d it' acc env) R s') (notedBy cx.M A env fun x s'=>R (.error x) s') s):
  codeAny cx.M A (.compStart (.ListComp elt gens scope pos) d it acc env) R s:=by
 refine codeAny_of_tree ?_
 have hg':(clausesOf (.ListComp elt gens scope pos))[d]? =some ⟨target,iter,ifs,0⟩:=hg;cases d with
 | zero=>
  show wpAny _ A ((compStart (.ListComp elt gens scope pos) 0 it acc env).onRaise (fun x=>do noteFrame x env;standAt theWindowsPlace)) _ _ s
  refine wpAny_notedAt ?_
  unfold compStart;rw[hg'];show wpAny _ _ (ask >>= _) _ _ s
  refine wpAny_bind (wpAny_askSetting (wpAny_ite ?_))
  split
  ·exact wpAny_pure ⟨rfl,h0⟩
  ·refine wpAny_bind (wpAny_rule ?_)
   show wpAny _ _ (standAt iter.pos >>= _) _ _ s
   exact wpAny_bind (wpAny_standAt (wpAny_bind (wpAny_mono h (fun it' s' h'=>wpAny_pure ⟨rfl,h'⟩) fun _ _ x=>x)))
 | succ d=>
  show wpAny _ A ((compStart (.ListComp elt gens scope pos) (d+1) it acc env).onRaise (fun x=>do noteFrame x env;standAt theWindowsPlace)) _ _ s
  refine wpAny_notedAt ?_
  unfold compStart;rw[hg'];show wpAny _ _ (ask >>= _) _ _ s
  refine wpAny_bind (wpAny_askSetting (wpAny_ite ?_))
  split
  ·exact wpAny_pure ⟨rfl,h0⟩
  ·refine wpAny_bind (wpAny_rule ?_)
   show wpAny _ _ (standAt iter.pos >>= _) _ _ s
   exact wpAny_bind (wpAny_standAt (wpAny_bind (wpAny_mono h (fun it' s' h'=>wpAny_pure ⟨rfl,h'⟩) fun _ _ x=>x)))
def notSet:Expr→Bool
 | .Set _ _ _=>false
 | _=>true
theorem folded_plain{e:Expr}(h:notSet e=true)(x:Value):foldedSetIterable e env x=pure x:=by
 cases e<;>first | rfl | cases h
theorem stp_none{J J':Jm}{h h':Heap}{own:Addr→Prop}(S:Stp J J' h h' own){a:Addr}(e:h'.get? a=none):h.get? a=none:=by
 cases q:h.get? a with
 | none=>rfl
 | some o=>exact absurd e (S.alive a (by rw[q];simp))
theorem SG.for_{elt target iter:Expr}{gens:List Comprehension}{scope:Scope}{pos:Pos}{d:Nat}{ifs:List Expr}{t:Tgt}{rng:Bool}{it:E}{g:G}(hg:gens[d]? =some ⟨target,iter,ifs,0⟩)(ht:tgtAt cs t target=true)(hns:notSet iter=true)
  (hI:SI cx cl n sc fs cs rng it iter) (hG:SG cx cl n sc fs cs (.ListComp elt gens scope pos) elt gens (d+1) g ifs):SG cx cl n sc fs cs (.ListComp elt gens scope pos) elt gens d (.for_ t rng it g) []:=by
 intro env A s J H m c D avs c' H' avs' kc Q E' hs hA W hcs hne X e0 h;unfold evG at e0;simp only[Option.bind_eq_bind,Option.bind_eq_some_iff,Prod.exists]at e0;obtain⟨y,H1,e1,vs,gd,e2,e3⟩:=e0;rw[List.forIn_nil];refine wpAny_pure ?_
 rw[if_pos rfl];unfold compAct;rw[hg];refine wpAny_bind (hI env A s J H m c y H1 vs gd _ _ hs hA X.sctx.ctx e1 e2 fun xv s1 J1 sm1 S1 I1 hready=> ?_)
 refine wpAny_bind (wpAny_standAt ?_)
 rw[if_neg (by show ¬ ((0:Int) != 0)=true;decide)]
 refine wpAny_bind (wpAny_of_eq (folded_plain hns xv) (wpAny_bind (wpAny_holding ?_)))
 rw[if_neg (by show ¬ ((0:Int) != 0)=true;decide)]
 refine hready _ fun I h' hIs kk hit=> ?_
 have X1:=X.step S1 I1;have hsb:s1.heap.get? I=none:=by rw[hIs];exact fresh_size _
 have hb:cx.hb.get? I=none:=new_none I1 hsb;have hIJ:I∉J1:=fun q=>I1.aliveJ q hsb
 have hIo:¬ outC env D I:=by
  rintro (q | q)
  ·exact (X1.sctx.ctx.out I q).2.1 hsb
  ·obtain⟨its,q2,e,_⟩:=X1.acc
   rw[← q,hsb]at e;cases e
 have X2:CSt cx env fs cs m c D avs J1 H1 h':=X1.step (Stp.of_keeps kk) (I1.keeps kk);have R0:∀ s',CPost cx env fs cs m c' D avs' J1 H' s1 s'→wpAny cx.M A kc Q E' s':=fun s' p=>h s' (p.trans sm1 (S1.weaken fun _ x=>x.elim))
 have loop:∀ {R:Result→Shared→Prop},(∀ s',wpAny cx.M A kc Q E' s'→R (.ok .next) s')→codeAny cx.M A (.compLoop (.ListComp elt gens scope pos) d (.ref I) (.ref D) env) R { s1 with heap:=h' }:=fun {R} hRR=>
  comp_loop (cx:=cx) (cl:=cl) (n:=n) (sc:=sc) (R:=R) (res:=(c',H',avs')) (Jb:=J1) (sb:=s1) (vs:=vs) (gd:=gd) rfl hg ht hG hs hA W hcs hne hb hsb hIo (fun s' p=>hRR s' (R0 s' p)) (vs.length - 0) 0 { s1 with heap:=h' } J1 H1 c avs rfl ⟨_,_,rfl⟩ (Stp.of_keeps kk) X2 hIJ hit (by rw[List.drop_zero];exact e3)
 refine wpAny_bind (wpAny_runOwn ?_)
 exact comp_start hg (loop fun s' z=>z) (it_self (s:={ s1 with heap:=h' }) hit (loop fun s' z=>z))
end
end Mine
end
section
open PySem PySem.W PyProof.Rows PySem.Calls
namespace Mine
def relabelS(scope sc:Scope):Scope:=
 { scope with names:=scope.names.map fun (n,k)=>if (k == .free&&sc.kind == .function&&sc.names.lookup n == some .cell) then (n,.cell) else (n,k) }
theorem relabel_eq(scope:Scope)(env:Env):relabel scope env=relabelS scope env.scope:=rfl
structure CompScope(scope sc:Scope)(names:List PySem.Str):Prop where
 kind:scope.kind= .function
 sk:sc.kind= .function
 cells:∀ x∈scope.names,x.2≠ .cell
 locs:∀ x∈scope.names,x.2= .local→scope.names.lookup x.1=some .local
 frees:∀ x∈scope.names,x.2= .free→sc.names.lookup x.1=some .cell∨sc.names.lookup x.1=some .free
 nms:∀ x∈names,scope.names.lookup x=some .local
 nodup:names.Nodup
 ne:names≠[]
theorem relabel_free{scope sc:Scope}{x:PySem.Str}(hc:∀ x∈scope.names,x.2≠ .cell):(relabelS scope sc).names.lookup x=some .cell∨(relabelS scope sc).names.lookup x=some .free→(x,NameKind.free)∈scope.names:=by
 unfold relabelS;simp only;generalize scope.names=l at hc;induction l with
 | nil=>simp
 | cons p r ih=>
  obtain⟨y,k⟩:=p;intro h;rw[List.map_cons]at h;cases hx:x == y with
  | true=>
   have hxy:x=y:=beq_iff_eq.mp hx;subst hxy;cases k with
   | free=>exact List.mem_cons_self
   | cell=>exact absurd rfl (hc _ List.mem_cons_self)
   | _=>simp[List.lookup_cons]at h
  | false=>
   refine List.mem_cons_of_mem _ (ih (fun z hz=>hc z (List.mem_cons_of_mem _ hz)) ?_)
   have e:∀ (q:PySem.Str × NameKind) (l:List (PySem.Str × NameKind)),q.1=y→List.lookup x (q::l)=List.lookup x l:=by
    intro q l hq;obtain⟨q1,q2⟩:=q;simp only at hq;subst hq;rw[List.lookup_cons,hx]
   rw[e _ _ (by simp only;split<;>rfl)]at h
   exact h
theorem closure_ok{scope:Scope}{env:Env}(h:∀ x∈scope.names,x.2= .free→∃ a,env.cells.lookup x.1=some a):
  ∃ cl,closureFor scope env=pure cl∧(∀ p∈cl,env.cells.lookup p.1=some p.2)∧(∀ x,(x,NameKind.free)∈scope.names→∃ a,cl.lookup x=some a):=by
 simp only[closureFor];have key:∀ (l:List (PySem.Str × NameKind)) (acc:List (PySem.Str × Addr)),(∀ x∈l,x.2= .free→∃ a,env.cells.lookup x.1=some a)→(∀ p∈acc,env.cells.lookup p.1=some p.2)→
   ∃ cl,(forIn l acc fun (x:PySem.Str × NameKind) (cs:List (PySem.Str × Addr))=>(if (x.2 == .free)=true then do let a ← cellOf env x.1;pure (ForInStep.yield ((x.1,a)::cs)) else pure (ForInStep.yield cs):Sem (ForInStep (List (PySem.Str × Addr)))))=pure cl∧
    (∀ p∈cl,env.cells.lookup p.1=some p.2)∧(∀ x,(x,NameKind.free)∈l→∃ a,cl.lookup x=some a)∧(∀ x a,acc.lookup x=some a→∃ a,cl.lookup x=some a):=by
  intro l;induction l with
  | nil=>intro acc _ ha;exact⟨acc,by rw[List.forIn_nil],ha,fun x m=>(by cases m),fun x a e=>⟨a,e⟩⟩
  | cons p r ih=>
   intro acc hl ha;obtain⟨y,k⟩:=p;rw[List.forIn_cons];by_cases hk:k= .free
   ·subst hk
    obtain⟨a,e⟩:=hl _ List.mem_cons_self rfl;obtain⟨cl,e1,e2,e3,e4⟩:=ih ((y,a)::acc) (fun x hx=>hl x (List.mem_cons_of_mem _ hx)) (fun p hp=>by
     cases hp with
     | head=>exact e
     | tail _ hp=>exact ha p hp)
    refine⟨cl,?_,e2,fun x m=> ?_,fun x b eb=> ?_⟩
    ·rw[← e1]
     simp only[beq_self_eq_true,if_true];unfold cellOf;simp only at e;rw[e];rfl
    ·cases m with
     | head=>exact e4 y a (by rw[List.lookup_cons];simp)
     | tail _ m=>exact e3 x m
    ·by_cases q:x=y
     ·subst q;exact e4 x a (by rw[List.lookup_cons];simp)
     ·have hq:(x == y)=false:=by simpa using q
      exact e4 x b (by rw[List.lookup_cons,hq];exact eb)
   ·obtain⟨cl,e1,e2,e3,e4⟩:=ih acc (fun x hx=>hl x (List.mem_cons_of_mem _ hx)) ha
    refine⟨cl,?_,e2,fun x m=> ?_,e4⟩
    ·rw[← e1]
     have:(k == NameKind.free)=false:=by simpa using hk
     simp only[this,Bool.false_eq_true,if_false];rfl
    ·cases m with
     | head=>exact absurd rfl hk
     | tail _ m=>exact e3 x m
 obtain⟨cl,e1,e2,e3,_⟩:=key scope.names [] h (fun p hp=>by cases hp)
 refine⟨cl,?_,e2,e3⟩
 have e1':(forIn scope.names [] fun (x:PySem.Str × NameKind) (cs:List (PySem.Str × Addr))=>(if (x.2 == .free)=true then do let a ← cellOf env x.1;pure (ForInStep.yield ((x.1,a)::cs)) else pure (ForInStep.yield cs):Sem (ForInStep (List (PySem.Str × Addr))))) >>= (fun cs=>pure cs)=(pure cl:Sem _):=by rw[e1];rfl
 exact e1'
section
variable {cx:Cx} {cl:Caller} {n:Nat} {sc:Scope} {fs cs:List PySem.Str} {A:Around} {E':Value→Shared→Prop} {s:Shared} {J:Jm} {H:Hp} {env:Env} {m c:Loc}
theorem comp_ctx{scope:Scope}{names:List PySem.Str}{clos:List (PySem.Str × Addr)}{C:Addr}{h4:Heap}{mm:PySem.Str→Option Value}(hs:env.scope=sc)(hS:CompScope scope sc names)(X:Ctx cx env fs cs m c J H s.heap)(hcl:∀ p∈clos,env.cells.lookup p.1=some p.2)
  (hfr:∀ x,(x,NameKind.free)∈scope.names→∃ a,clos.lookup x=some a) (kk:∀ b o,s.heap.get? b=some o→h4.get? b=some o) (hN:h4.Ns C mm) (hC:s.heap.get? C=none):
  SCtx cx (compEnvC scope clos C env) fs names m (List.replicate names.length none) J H h4∧StoreOk (compEnvC scope clos C env) names∧(∀ y∈names,(compEnvC scope clos C env).kindOf y=some .local):=by
 subst hs;have S:Stp J J s.heap h4 noOwn:=Stp.of_keeps kk;have loc:∀ y∈names,(compEnvC scope clos C env).kindOf y=some .local:=fun y hy=>lookup_relabel_local (hS.nms y hy)
 have free:∀ x,isFree (compEnvC scope clos C env) x→isFree env x∧∃ a,clos.lookup x=some a:=fun x hx=>by
  have hm:(x,NameKind.free)∈scope.names:=relabel_free (sc:=env.scope) hS.cells hx;exact⟨hS.frees _ hm rfl,hfr x hm⟩
 have cAddr:∀ p∈clos,EAddr env p.2:=fun p hp=> .inr ⟨p.1,mem_of_lookup (hcl p hp)⟩
 refine⟨⟨⟨X.inv.keeps kk,hS.kind,X.gl,X.bi,fun a ea=> ?_,fun i x v hx hf hm=> ?_,fun i x v hx hm=> ?_,by simp,fun x hx=>(free x hx).2⟩,⟨⟨mm,hN⟩,fun hf=>absurd rfl hf⟩⟩,⟨hS.kind,fun p hp e=> ?_,fun x hx=> .inl (loc x hx),hS.nodup⟩,loc⟩
 ·rcases ea with ea | ⟨x,hx⟩
  ·have ea:a=C:=ea
   subst ea;exact⟨fun q=>X.inv.aliveJ q hC,Ns.alive hN,new_none X.inv hC⟩
  ·have o:=X.out a (cAddr _ hx)
   exact⟨o.1,S.alive a o.2.1,o.2.2⟩
 ·obtain⟨hfe,a,ha⟩:=free x (hf hS.ne)
  obtain⟨val,r,q⟩:=X.fv i x v hx (fun _=>hfe) hm
  refine⟨val,r.mono S,?_⟩
  rcases q with⟨k,_⟩ | ⟨k,c',l,o,e,dd⟩
  ·rcases hfe with z | z<;>rw[k]at z<;>cases z
  ·have hl:=hcl _ (mem_of_lookup ha)
   simp only at hl;rw[l]at hl;cases hl;exact .inr ⟨hf hS.ne,_,ha,o,kk _ _ e,dd⟩
 ·rw[List.getElem?_replicate]at hm
  split at hm<;>cases hm
 ·have e:p.2=C:=e
  have:=(X.out _ (cAddr p hp)).2.1;rw[e]at this;exact this hC
theorem comp_core{eC elt target iter:Expr}{rest:List Comprehension}{ifs:List Expr}{scope:Scope}{names:List PySem.Str}{pos pos':Pos}{k:Nat}{t:Tgt}{rng:Bool}{it:E}{g:G}{use:Option (Value→Sem Unit)}{v:AV}{H':Hp}{Q:Value→Shared→Prop}
  (heC:eC= .ListComp elt (⟨target,iter,ifs,0⟩::rest) scope pos) (hS:CompScope scope sc names) (hk:k=names.length) (ht:tgtAt names t target=true) (hns:notSet iter=true) (hI:SI cx cl n sc fs cs rng it iter)
  (hG:SG cx cl n (relabelS scope sc) fs names eC elt (⟨target,iter,ifs,0⟩::rest) 1 g ifs) (hs:env.scope=sc) (hA:AOk A n) (X:Ctx cx env fs cs m c J H s.heap) (e:evE cl (.comp k t rng it g) m c H=some (v,H'))
  (h:∀ acc s' C,EPost cx J s v H' acc s'→(∃ mm,s'.heap.Ns C mm)→s.heap.get? C=none→(∃ J',Stp J J' s.heap s'.heap noOwn∧Inv cx J' H' s'.heap∧Rep J' s'.heap v acc∧C∉J')→compPost cx.M A E' use Q acc C (.ok .next) s'):
  wpAny cx.M A (comprehension eC scope env pos' (newList []) false (eval iter env) use) Q E' s:=by
 unfold evE at e;simp only[Option.bind_eq_bind,Option.bind_eq_some_iff,Prod.exists]at e;obtain⟨y,H1,e1,vs,gd,e2,c',H2,avs',e3,e4⟩:=e;cases e4;obtain⟨clos,hclos,hc1,hc2⟩:=closure_ok (scope:=scope) (env:=env) fun x hx hfr=>X.cel x.1 (by subst hs;exact hS.frees x hx hfr)
 refine wpAny_comprehension_free (g:=⟨target,iter,ifs,0⟩) (gs:=rest) (by rw[heC];rfl) (folded_plain hns) hclos hS.kind hS.locs ?_
 refine hI env A s J H m c y H1 vs gd _ _ hs hA X e1 e2 fun xv s1 J1 sm1 S1 I1 hready=> ?_
 refine hready _ fun I hI' hIs kk hit=> ?_
 have X1:=X.step S1 I1;refine wpAny_newList ?_
 refine wpAny_newFunctionEnv hS.cells (fun x hx=>by cases hx) (fun h4 hN hsb=> ?_) hS.kind
 have hD:hI'.get? hI'.objs.size=none:=fresh_size _;have hz:(hI'.push { cls:= .type "list",data:= .seq ([]:List Value).toArray }).objs.size=hI'.objs.size+1:=Heap.size_push ..;have ne1:∀ b o,hI'.get? b=some o→b≠(hI'.push { cls:= .type "list",data:= .seq ([]:List Value).toArray }).objs.size:=fun b o e=>by rw[hz];exact Nat.ne_of_lt (Nat.lt_succ_of_lt (Heap.lt_size e))
 have k2:∀ b o,hI'.get? b=some o→h4.get? b=some o:=fun b o e=>hsb.extBut b o (ne1 b o e) (Heap.get?_push_of_some _ (Heap.get?_push_of_some _ e))
 have k1:∀ b o,s1.heap.get? b=some o→h4.get? b=some o:=fun b o e=>k2 b o (kk b o e)
 have hDg:h4.get? hI'.objs.size=some (listOf #[] 0):=hsb.extBut _ _ (by rw[hz];exact Nat.ne_of_lt (Nat.lt_succ_self _)) (Heap.get?_push_of_some _ (Heap.get?_push_size _ rfl))
 have noneS:∀ a,hI'.get? a=none→s1.heap.get? a=none:=fun a ha=>by
  cases q:s1.heap.get? a with
  | none=>rfl
  | some o=>rw[kk a o q]at ha;cases ha
 have hD1:s1.heap.get? hI'.objs.size=none:=noneS _ hD;have hCn:hI'.get? (hI'.push { cls:= .type "list",data:= .seq ([]:List Value).toArray }).objs.size=none:=by
  cases q:hI'.get? (hI'.push { cls:= .type "list",data:= .seq ([]:List Value).toArray }).objs.size with
  | none=>rfl
  | some o=>exact absurd rfl (ne1 _ o q)
 have hC1:=noneS _ hCn;generalize hCe:(hI'.push { cls:= .type "list",data:= .seq ([]:List Value).toArray }).objs.size=C at *;obtain⟨XC,W,hloc⟩:=comp_ctx (s:=s1) (h4:=h4) (C:=C) (names:=names) hs hS X1 hc1 hc2 k1 hN hC1;have hDC:hI'.objs.size≠C:=by rw[hz];exact Nat.ne_of_lt (Nat.lt_succ_self _)
 have hDE:¬ EAddr (compEnvC scope clos C env) hI'.objs.size:=by
  rintro (q | ⟨x,q⟩)
  ·exact hDC q
  ·exact (X1.out _ (.inr ⟨x,mem_of_lookup (hc1 _ q)⟩)).2.1 hD1
 have XS:CSt cx (compEnvC scope clos C env) fs names m (List.replicate names.length none) hI'.objs.size [] J1 H1 h4:=
  ⟨XC,fun q=>I1.aliveJ q hD1,new_none I1 hD1,hDE,#[],0,hDg,rfl,by simp⟩
 have hsbI:s1.heap.get? I=none:=by rw[hIs];exact fresh_size _
 have itA:=hit.alive;have hIo:¬ outC (compEnvC scope clos C env) hI'.objs.size I:=by
  rintro ((q | ⟨x,q⟩) | q)
  ·have q:I=C:=q
   rw[q,hCn]at itA;exact itA rfl
  ·exact (X1.out _ (.inr ⟨x,mem_of_lookup (hc1 _ q)⟩)).2.1 hsbI
  ·rw[q,hD]at itA;exact itA rfl
 have it4:ItAt vs gd I 0 J1 h4:=hit.ext List.prefix_rfl (fun a its n e=>k2 _ _ e) fun o e=>k2 _ _ e
 have loop:∀ {R:Result→Shared→Prop} {tk:Nat},(∀ s',CPost cx (compEnvC scope clos C env) fs names m c' hI'.objs.size avs' J1 H2 s1 s'→R (.ok .next) s')→
   codeAny cx.M A (.compLoop (.ListComp elt (⟨target,iter,ifs,0⟩::rest) scope pos) 0 (.ref I) (.ref hI'.objs.size) (compEnvC scope clos C env)) R { s1 with heap:=h4,toks:=tk }:=fun {R} {tk} hRR=>
  comp_loop (cx:=cx) (cl:=cl) (n:=n) (sc:=relabelS scope sc) (R:=R) (res:=(c',H2,avs')) (Jb:=J1) (sb:=s1) (vs:=vs) (gd:=gd) (ifs:=ifs) (g:=g) rfl rfl ht (by rw[← heC];exact hG) (by subst hs;rfl) hA W hloc hS.ne (new_none I1 hsbI) hsbI hIo hRR (vs.length - 0) 0 { s1 with heap:=h4,toks:=tk } J1 H1 _ [] rfl ⟨_,_,rfl⟩ (Stp.of_keeps k1) XS (fun q=>I1.aliveJ q hsbI) it4 (by rw[List.drop_zero,← hk];exact e3)
 subst heC;have fin:∀ s',CPost cx (compEnvC scope clos C env) fs names m c' hI'.objs.size avs' J1 H2 s1 s'→compPost cx.M A E' use Q (.ref hI'.objs.size) C (.ok .next) s':=by
  rintro s' ⟨sm2,J2,S2,X2⟩
  obtain⟨its,q,ho,r,z⟩:=X2.acc;have S2':Stp J1 J2 s1.heap s'.heap noOwn:=⟨S2.pre,S2.new,fun b o e hJ _=>S2.keep b o e hJ (by
   rintro (w | w)
   ·have w:b=C:=w
    rw[w,hC1]at e;cases e
   ·rw[w,hD1]at e;cases e),S2.tup,S2.alive⟩
  have Sall:=S1.trans S2';have I2:=X2.sctx.ctx.inv;have hsys:hI'.objs.size≠sysModules:=(I1.keeps kk).size_ne;have E:=EPost.adopt (o:= .list avs') (same_trans sm1 sm2) Sall I2 X2.accJ (stp_none S1 hD1) X2.accB hsys ⟨its,q,ho,r.ext (List.prefix_append _ _) fun _ _ _ z=>z,z⟩
  have hCJ:C∉J2++[hI'.objs.size]:=by
   intro w;rcases List.mem_append.mp w with w | w
   ·exact (X2.sctx.ctx.out C (.inl rfl)).1 w
   ·exact hDC (List.mem_singleton.mp w).symm
  refine h _ s' C E X2.sctx.fr.ns (stp_none S1 hC1) ⟨J2++[hI'.objs.size],⟨Sall.pre.trans (List.prefix_append _ _),fun b hb'=> ?_,Sall.keep,Sall.tup,Sall.alive⟩,I2.adopt X2.accJ X2.accB hsys ⟨its,q,ho,r.ext (List.prefix_append _ _) fun _ _ _ z=>z,z⟩,⟨_,getJ_last I2.rep.len,rfl⟩,hCJ⟩
  rcases List.mem_append.mp hb' with w | w
  ·exact Sall.new b w
  ·rw[List.mem_singleton.mp w];exact .inr (stp_none S1 hD1)
 exact comp_start rfl (loop fin) (it_self (s:={ s1 with heap:=h4,toks:=_ }) it4 (loop fin))
end
end Mine
end
section
open PySem PySem.W PyProof.Rows PySem.Calls
namespace Mine
section
variable {cx:Cx} {cl:Caller} {n W:Nat} {sc:Scope} {fs cs:List PySem.Str} {A:Around} {E':Value→Shared→Prop} {s:Shared} {J:Jm} {H:Hp} {env:Env} {m c:Loc}
theorem comp_after{v:AV}{H':Hp}{acc:Value}{s':Shared}{C:Addr}{J':Jm}{h':Heap}{mm:PySem.Str→Option Value}{own:Addr→Prop}(S:Stp J J' s.heap s'.heap own)(I:Inv cx J' H' s'.heap)(r:Rep J' s'.heap v acc)(hC:C∉J')(hN:s'.heap.Ns C mm)(hsC:s.heap.get? C=none)(hb:cx.hb.get? C=none)(hs:Heap.SameBut C s'.heap h'):
  Stp J J' s.heap h' own∧Inv cx J' H' h'∧Rep J' h' v acc:=by
 have nt:=Ns.notTup hN;have T:∀ b its n,s'.heap.get? b=some (tupObj its n)→h'.get? b=some (tupObj its n):=fun b its n e=>(hs.2 b fun q=>nt its n (q ▸ e)).trans e
 exact⟨S.extBut hs.extBut hsC,I.extBut hs.extBut hC hb nt,r.ext List.prefix_rfl T⟩
theorem SE.comp{elt target iter:Expr}{rest:List Comprehension}{ifs:List Expr}{scope:Scope}{names:List PySem.Str}{pos:Pos}{k:Nat}{t:Tgt}{rng:Bool}{it:E}{g:G}(hS:CompScope scope sc names)(hk:k=names.length)(ht:tgtAt names t target=true)(hns:notSet iter=true)
  (hI:SI cx cl n sc fs cs rng it iter) (hG:SG cx cl n (relabelS scope sc) fs names (.ListComp elt (⟨target,iter,ifs,0⟩::rest) scope pos) elt (⟨target,iter,ifs,0⟩::rest) 1 g ifs):
  SE cx cl n sc fs cs (.comp k t rng it g) (.ListComp elt (⟨target,iter,ifs,0⟩::rest) scope pos):=by
 intro env A s J H m c v H' Q E' hs hA X e h;show wpAny cx.M A (comprehension (.ListComp elt (⟨target,iter,ifs,0⟩::rest) scope pos) scope env iter.pos (newList []) false (eval iter env) none) Q E' s
 refine comp_core rfl hS hk ht hns hI hG hs hA X e fun acc s' C p hN hC hJ=> ?_
 obtain⟨mm,hN⟩:=hN;obtain⟨J',S,I,r,hCJ⟩:=hJ;refine⟨mm,hN,fun h' hs'=> ?_⟩
 obtain⟨S2,I2,r2⟩:=comp_after S I r hCJ hN hC (new_none X.inv hC) hs';exact h _ _ ⟨same_trans p.1 ⟨h',s'.toks,rfl⟩,J',S2,I2,r2⟩
def FlowRep(J:Jm)(h:Heap):Fl→Flow→Prop
 | .next,f=>f= .next
 | .cont,f=>f= .cont
 | .ret v,f=>∃ val,f= .ret val∧Rep J h v val
def XPost(cx:Cx)(env:Env)(fs:List PySem.Str)(m':Loc)(J:Jm)(H':Hp)(s:Shared)(fl:Fl)(f:Flow)(s':Shared):Prop:=
 (∃ h tk,s'={ s with heap:=h,toks:=tk })∧∃ J',Stp J J' s.heap s'.heap (EAddr env)∧SCtx cx env fs [] m' [] J' H' s'.heap∧FlowRep J' s'.heap fl f
def SX(cx:Cx)(cl:Caller)(n W:Nat)(sc:Scope)(fs:List PySem.Str)(st:S)(x:Stmt):Prop:=
 ∀ (env:Env) (A:Around) (s:Shared) (J:Jm) (H:Hp) (m:Loc) (fl:Fl) (m':Loc) (H':Hp) (Q:Flow→Shared→Prop) (E':Value→Shared→Prop),env.scope=sc→AOk A n→StoreOk env fs→SCtx cx env fs [] m [] J H s.heap→
  exS cl W st m H=some (fl,m',H')→(∀ f s',XPost cx env fs m' J H' s fl f s'→Q f s')→wpAny cx.M A (exec x env) Q E' s
def SXL(cx:Cx)(cl:Caller)(n W:Nat)(sc:Scope)(fs:List PySem.Str)(sts:List S)(xs:List Stmt):Prop:=
 ∀ (env:Env) (A:Around) (s:Shared) (J:Jm) (H:Hp) (m:Loc) (fl:Fl) (m':Loc) (H':Hp) (Q:Flow→Shared→Prop) (E':Value→Shared→Prop),env.scope=sc→AOk A n→StoreOk env fs→SCtx cx env fs [] m [] J H s.heap→
  exL cl W sts m H=some (fl,m',H')→(∀ f s',XPost cx env fs m' J H' s fl f s'→Q f s')→wpAny cx.M A (execs xs env) Q E' s
theorem XPost.trans{m':Loc}{H':Hp}{J1:Jm}{s1:Shared}{fl:Fl}{f:Flow}{s':Shared}(sm:∃ h tk,s1={ s with heap:=h,toks:=tk })(S:Stp J J1 s.heap s1.heap (EAddr env))(p:XPost cx env fs m' J1 H' s1 fl f s'):XPost cx env fs m' J H' s fl f s':=
 let ⟨sm2,J2,S2,X,r⟩:=p;⟨same_trans sm sm2,J2,S.trans S2,X,r⟩
theorem EPost.x{v:AV}{H':Hp}{val:Value}{s':Shared}(X:SCtx cx env fs [] m [] J H s.heap)(p:EPost cx J s v H' val s'):∃ J',(∃ h tk,s'={ s with heap:=h,toks:=tk })∧Stp J J' s.heap s'.heap (EAddr env)∧SCtx cx env fs [] m [] J' H' s'.heap∧Rep J' s'.heap v val:=
 let ⟨sm,J',S,I,r⟩:=p;⟨J',sm,S.weaken fun _ x=>x.elim,X.step S I,r⟩
theorem SXL.nil:SXL cx cl n W sc fs [] []:=by
 intro env A s J H m fl m' H' Q E' hs hA Wd X e h;unfold exL at e;cases e;exact wpAny_execs_nil (h _ s ⟨⟨_,_,rfl⟩,J,Stp.refl _ _ _,X,rfl⟩)
theorem SXL.cons{st:S}{x:Stmt}{sts:List S}{xs:List Stmt}(h1:SX cx cl n W sc fs st x)(h2:SXL cx cl n W sc fs sts xs):SXL cx cl n W sc fs (st::sts) (x::xs):=by
 intro env A s J H m fl m' H' Q E' hs hA Wd X e h;unfold exL at e;simp only[Option.bind_eq_bind,Option.bind_eq_some_iff,Prod.exists]at e;obtain⟨f1,m1,H1,e1,e2⟩:=e;refine wpAny_execs_cons (h1 env A s J H m f1 m1 H1 _ E' hs hA Wd X e1 fun f s' p=> ?_)
 obtain⟨sm,J',S,X',r⟩:=p;cases f1 with
 | next=>
  cases r;exact h2 env A s' J' H1 m1 fl m' H' Q E' hs hA Wd X' e2 fun f s'' p=>h f s'' (p.trans sm S)
 | cont=>cases r;cases e2;exact h _ _ ⟨sm,J',S,X',rfl⟩
 | ret v=>obtain ⟨val,rfl,r⟩:=r;cases e2;exact h _ _ ⟨sm,J',S,X',val,rfl,r⟩
theorem SX.ret{e:E}{x:Expr}{pos:Pos}(h1:SE cx cl n sc fs [] e x):SX cx cl n W sc fs (.ret e) (.Return (some x) pos):=by
 intro env A s J H m fl m' H' Q E' hs hA Wd X e0 h;unfold exS at e0;simp only[Option.bind_eq_bind,Option.bind_eq_some_iff,Prod.exists]at e0;obtain⟨v,H1,e1,e2⟩:=e0;cases e2;with_reducible refine wpAny_Return_some ?_
 refine h1 env A s J H m [] v _ _ _ hs hA X.ctx e1 fun val s' p=> ?_
 obtain⟨J',sm,S,X',r⟩:=p.x X;exact h _ _ ⟨sm,J',S,X',val,rfl,r⟩
theorem SX.cont{pos:Pos}:SX cx cl n W sc fs .cont (.Continue pos):=by
 intro env A s J H m fl m' H' Q E' hs hA Wd X e0 h;unfold exS at e0;cases e0;exact wpAny_Continue (h _ s ⟨⟨_,_,rfl⟩,J,Stp.refl _ _ _,X,rfl⟩)
theorem SX.pass{pos:Pos}:SX cx cl n W sc fs .pass (.Pass pos):=by
 intro env A s J H m fl m' H' Q E' hs hA Wd X e0 h;unfold exS at e0;cases e0;exact wpAny_Pass (h _ s ⟨⟨_,_,rfl⟩,J,Stp.refl _ _ _,X,rfl⟩)
theorem SX.fail{x:Stmt}:SX cx cl n W sc fs .fail x:=by
 intro env A s J H m fl m' H' Q E' hs hA Wd X e0 h;unfold exS at e0;cases e0
def notComp:Expr→Bool
 | .ListComp _ _ _ _=>false
 | .SetComp _ _ _ _=>false
 | .DictComp _ _ _ _ _=>false
 | _=>true
theorem swaps_plain{x:Expr}{t:Option Expr}{l:Nat}(h:notComp x=true):swapsWith x t l env=pure false:=by
 cases x<;>first | rfl | cases h
theorem not_interactive(h:env.scope.kind= .function):interactive env=false:=by unfold interactive;rw[h];rfl
theorem SX.expr{e:E}{x:Expr}{pos:Pos}(h1:SE cx cl n sc fs [] e x)(hx:notComp x=true):SX cx cl n W sc fs (.expr e) (.Expr x pos):=by
 intro env A s J H m fl m' H' Q E' hs hA Wd X e0 h;unfold exS at e0;simp only[Option.bind_eq_bind,Option.bind_eq_some_iff,Prod.exists]at e0;obtain⟨v,H1,e1,e2⟩:=e0;cases e2;refine wpAny_Expr_any ?_ (not_interactive Wd.fn) (swaps_plain hx)
 refine h1 env A s J H m [] v _ _ _ hs hA X.ctx e1 fun val s' p=> ?_
 obtain⟨J',sm,S,X',r⟩:=p.x X;exact h _ _ ⟨sm,J',S,X',rfl⟩
theorem SX.ite{t:E}{b o:List S}{xt:Expr}{xb xo:List Stmt}{pos:Pos}(h1:ST cx cl n sc fs [] t xt)(h2:SXL cx cl n W sc fs b xb)(h3:SXL cx cl n W sc fs o xo):SX cx cl n W sc fs (.ite t b o) (.If xt xb xo pos):=by
 intro env A s J H m fl m' H' Q E' hs hA Wd X e0 h;unfold exS tstE at e0;simp only[Option.bind_eq_bind,Option.bind_eq_some_iff,Prod.exists]at e0;obtain⟨r,H1,⟨v,H2,e1,t',e2,e3⟩,e4⟩:=e0;cases e3;with_reducible refine wpAny_If ?_
 refine h1 env A s J H m [] v _ _ _ _ hs hA X.ctx e1 e2 fun s' p=> ?_
 obtain⟨J',sm,S,X',_⟩:=p.x X;cases r with
 | true=>exact h2 env A s' J' _ m fl m' H' Q E' hs hA Wd X' e4 fun f s'' p=>h f s'' (p.trans sm S)
 | false=>exact h3 env A s' J' _ m fl m' H' Q E' hs hA Wd X' e4 fun f s'' p=>h f s'' (p.trans sm S)
def tgtVal:Expr→Expr→Bool
 | .Name _ _,_=>true
 | .Tuple _ _ _,.Tuple _ _ _=>false
 | .Tuple _ _ _,_=>true
 | _,_=>false
theorem swapped_plain{t x:Expr}(h:tgtVal t x=true):swappedStores [t] x env=pure none:=by
 cases t<;>first | (cases h;done) | skip
 ·cases x<;>first | rfl | cases h
 ·cases x<;>first | rfl | cases h
theorem SX.asg{t:Tgt}{e:E}{xt x:Expr}{pos:Pos}(h1:SE cx cl n sc fs [] e x)(ht:tgtAt fs t xt=true)(hsw:∀ env:Env,env.scope=sc→swapsWith x (some xt) pos.line env=pure false)(hst:tgtVal xt x=true):
  SX cx cl n W sc fs (.assign t e) (.Assign [xt] x pos):=by
 intro env A s J H m fl m' H' Q E' hs hA Wd X e0 h;unfold exS at e0;simp only[Option.bind_eq_bind,Option.bind_eq_some_iff,Prod.exists]at e0;obtain⟨v,H1,e1,m1,e2,e3⟩:=e0;cases e3;refine wpAny_Assign_stores ?_ (hsw env hs) (swapped_plain hst)
 refine h1 env A s J H m [] v _ _ _ hs hA X.ctx e1 fun val s' p=> ?_
 obtain⟨J',sm,S,X',r⟩:=p.x X;have he:(assignEach [xt] env).map (·.2)=[PySem.assign xt env]:=by
  cases xt<;>first | rfl | (cases hst;done)
 rw[he];show wpAny cx.M A (PySem.assign xt env val) _ E' s'
 refine bind_fun hA.hh Wd ht e2 X' r fun s'' hst2=> ?_
 exact h _ _ ⟨same_trans sm hst2.1,J',S.trans hst2.2.1,hst2.2.2,rfl⟩
theorem SX.stAttr(hC:CxOk cx)(hK:ClsOk cx){o e:E}{nm:Nm}{xo x:Expr}{name:PySem.Str}{pos pos':Pos}(h1:SE cx cl n sc fs [] e x)(h2:SE cx cl n sc fs [] o xo)(hn:decide (name.cps.toList=nm)=true)(hx:notComp x=true):
  SX cx cl n W sc fs (.setAttr o nm e) (.Assign [.Attribute xo name pos'] x pos):=by
 intro env A s J H m fl m' H' Q E' hs hA Wd X e0 h;unfold exS at e0;simp only[Option.bind_eq_bind,Option.bind_eq_some_iff,Prod.exists]at e0;obtain⟨v,H1,e1,y,H2,e2,H3,e3,e4⟩:=e0;cases e4;have hname:name=⟨nm.toArray⟩:=by
  rw[decide_eq_true_eq]at hn;cases name;simp only at hn;subst hn;simp
 subst hname;refine plainObj_wpAny_Assign_Attribute ?_ (swaps_plain hx)
 refine h1.then h2 hs hA X.ctx e1 e2 fun va vo s' J' sm S X' ra ro=> ?_
 have XS:=X.step S X'.inv;refine s_setAttr hC hK X'.inv ro ra e3 fun s'' p=> ?_
 obtain⟨J2,sm2,S2,X2,_⟩:=p.x XS;exact h _ _ ⟨same_trans sm sm2,J2,(S.weaken fun _ x=>x.elim).trans S2,X2,rfl⟩
theorem s_setSub{o i v:AV}{vo vi val:Value}{H':Hp}{Q:Unit→Shared→Prop}(hA:AOk A n)(I:Inv cx J H s.heap)(ro:Rep J s.heap o vo)(ri:Rep J s.heap i vi)(rv:Rep J s.heap v val)(h:setSubV H o i v=some H')(hQ:∀ s',EPost cx J s .none H' .none s'→Q () s'):
  wpAny cx.M A (setItem vo vi val) Q E' s:=by
 have hu':A.units+70<cLine:=by have:=hA.hu;omega
 unfold setSubV at h;split at h
 ·rename_i k
  obtain⟨a,hJ,rfl⟩:=ro;split at h
  ·rename_i vs hk
   split at h
   ·split at h
    ·rename_i q
     cases h;obtain⟨t,rfl⟩:=ri;exact s_setItemList I hJ hk q.1 q.2 rv (fun h' tk S I'=>hQ _ ⟨⟨h',tk,rfl⟩,J,S,I',rfl⟩)
    ·cases h
   ·cases h
  ·rename_i es hk
   split at h
   ·rename_i q
    cases h;exact s_setItemDict hu' I hJ hk ri q.1 rv q.2 fun h' tk S I'=>hQ _ ⟨⟨h',tk,rfl⟩,J,S,I',rfl⟩
   ·cases h
  ·cases h
 ·cases h
theorem SX.stSub{o i e:E}{xo xi x:Expr}{pos pos':Pos}(h1:SE cx cl n sc fs [] e x)(h2:SE cx cl n sc fs [] o xo)(h3:SE cx cl n sc fs [] i xi)(hx:notComp x=true):SX cx cl n W sc fs (.setSub o i e) (.Assign [.Subscript xo xi pos'] x pos):=by
 intro env A s J H m fl m' H' Q E' hs hA Wd X e0 h;unfold exS at e0;simp only[Option.bind_eq_bind,Option.bind_eq_some_iff,Prod.exists]at e0;obtain⟨v,H1,e1,y,H2,e2,z,H3,e3,H4,e4,e5⟩:=e0;cases e5;refine wpAny_Assign_Subscript ?_ (swaps_plain hx)
 refine h1.one hs hA X.ctx e1 fun va s1 J1 sm1 S1 X1 ra=> ?_
 refine h2.then h3 hs hA X1 e2 e3 fun vo vi s' J' sm S X' ro ri=> ?_
 have XS:=X.step (S1.trans S) X'.inv;refine s_setSub hA X'.inv ro ri (ra.mono S) e4 fun s'' p=> ?_
 obtain⟨J2,sm2,S2,X2,_⟩:=p.x XS;exact h _ _ ⟨same_trans sm1 (same_trans sm sm2),J2,((S1.trans S).weaken fun _ x=>x.elim).trans S2,X2,rfl⟩
end
end Mine
end
section
open PySem PySem.W PyProof.Rows PySem.Calls
namespace Mine
section
variable {cx:Cx} {cl:Caller} {n W:Nat} {sc:Scope} {fs cs:List PySem.Str} {A:Around} {E':Value→Shared→Prop} {s:Shared} {J:Jm} {H:Hp} {env:Env} {m c:Loc}
theorem SX.used{elt target iter:Expr}{rest:List Comprehension}{ifs:List Expr}{scope:Scope}{names:List PySem.Str}{pos spos py:Pos}{y:PySem.Str}{i k:Nat}{t:Tgt}{rng:Bool}{it:E}{g:G}(hS:CompScope scope sc names)(hk:k=names.length)(ht:tgtAt names t target=true)(hns:notSet iter=true)
  (hI:SI cx cl n sc fs [] rng it iter) (hG:SG cx cl n (relabelS scope sc) fs names (.ListComp elt (⟨target,iter,ifs,0⟩::rest) scope pos) elt (⟨target,iter,ifs,0⟩::rest) 1 g ifs) (hy:tgtAt fs (.one i) (.Name y py)=true)
  (hsw:∀ env:Env,env.scope=sc→swapsWith (.ListComp elt (⟨target,iter,ifs,0⟩::rest) scope pos) (some (.Name y py)) spos.line env=pure true):
  SX cx cl n W sc fs (.assign (.one i) (.comp k t rng it g)) (.Assign [.Name y py] (.ListComp elt (⟨target,iter,ifs,0⟩::rest) scope pos) spos):=by
 intro env A s J H m fl m' H' Q E' hs hA Wd X e0 h;unfold exS at e0;simp only[Option.bind_eq_bind,Option.bind_eq_some_iff,Prod.exists]at e0;obtain⟨v,H1,e1,m1,e2,e3⟩:=e0;cases e3;rw[exec_Assign_Name_used _ _ _ _ (hsw env hs)];refine wpAny_bind (wpAny_standAt (wpAny_bind ?_))
 show wpAny _ A (do let _ ← comprehension (.ListComp elt (⟨target,iter,ifs,0⟩::rest) scope pos) scope env iter.pos (newList []) false (eval iter env) (some (PySem.assign (.Name y py) env))) _ _ s
 refine wpAny_bind (wpAny_mono (comp_core (use:=some (PySem.assign (.Name y py) env)) (Q:=fun _ s'=>Q .next s') rfl hS hk ht hns hI hG hs hA X.ctx e1 fun acc s' C p hN hC hJ=> ?_) (fun _ s' hq=>wpAny_pure (wpAny_pure hq)) fun _ _ e=>e)
 obtain⟨mm,hN⟩:=hN;obtain⟨J',S,I,r,hCJ⟩:=hJ;have X':=X.step S I;refine bind_fun hA.hh Wd hy e2 X' r fun s'' hst=> ?_
 obtain⟨sm2,S2,X2⟩:=hst;have hCE:¬ EAddr env C:=fun q=>(X.ctx.out C q).2.1 hC
 have hN2:s''.heap.Ns C mm:=by
  obtain⟨o,es,ep,e,rr⟩:=hN;exact⟨o,es,ep,S2.keep _ _ e hCJ hCE,rr⟩
 refine⟨mm,hN2,fun h' hs'=>h _ _ ⟨same_trans p.1 (same_trans sm2 ⟨h',s''.toks,rfl⟩),J',?_,X2.extBut hs'.extBut hCJ (new_none X.ctx.inv hC) (Ns.notTup hN2) hCE,rfl⟩⟩
 exact ((S.weaken fun _ x=>x.elim).trans S2).extBut hs'.extBut hC
theorem r_load{x:PySem.Str}{v:Value}{Q:Value→Shared→Prop}(hk:env.scope.kind= .function)(hv:VarIs env s.heap x v)(hd2:(x == ("__classdict__" :PySem.Str))=false)(h:Q v s):wpAny cx.M A (loadName env x) Q E' s:=by
 rcases hv with⟨k,mm,N,q⟩ | ⟨k | k,c,l,ic⟩
 ·exact wpAny_loadName_local hk k N q h
 ·exact wpAny_loadName_cell hk k l ic h
 ·exact wpAny_loadName_free hk k l ic h hd2
def augOk:Op→Bool
 | .add=>true
 | .sub=>true
 | .bor=>true
 | _=>false
theorem augOk_or{o:Op}(h:augOk o=true):o= .add∨o= .sub∨o= .bor:=by cases o<;>simp_all [augOk]
theorem SX.augLoc{i:Nat}{op:Op}{e:E}{y:PySem.Str}{py pos:Pos}{x:Expr}(h1:SE cx cl n sc fs [] e x)(hy:tgtAt fs (.one i) (.Name y py)=true)(hd2:(y == ("__classdict__" :PySem.Str))=false)(ho:augOk op=true):
  SX cx cl n W sc fs (.augLoc i op e) (.AugAssign (.Name y py) (opr op) x pos):=by
 intro env A s J H m fl m' H' Q E' hs hA Wd X e0 h;unfold exS at e0;simp only[Option.bind_eq_bind,Option.bind_eq_some_iff,Prod.exists]at e0;obtain⟨old,H1,e1,v,H2,e2,r,H3,e3,m1,e4,e5⟩:=e0;cases e5;have hyi:fs[i]? =some y:=by unfold tgtAt at hy;exact beq_iff_eq.mp hy
 have e:exec (.AugAssign (.Name y py) (opr op) x pos) env=(do
   standAt py
   let old ← loadName env y
   let v ← holding [old] (eval x env)
   standAt pos
   let new ← operate [old,v] (inplaceOp (opr op) old v)
   PySem.assign (.Name y py) env new
   pure .next):=rfl
 rw[e];unfold evE at e1;simp only[List.isEmpty_nil,if_true]at e1;split at e1
 ·rename_i w q
  cases e1;obtain⟨val,rv,hv⟩:=X.ctx.fv i y _ hyi (fun z=>absurd rfl z) q
  refine wpAny_bind (wpAny_standAt (wpAny_bind (r_load Wd.fn hv hd2 ?_)))
  refine wpAny_bind (wpAny_holding (h1.one hs hA X.ctx e2 fun va s' J' sm S X' ra=> ?_))
  have XS:=X.step S X'.inv;refine wpAny_bind (wpAny_standAt (wpAny_bind (wpAny_operating (wpAny_mono (s_inplV (augOk_or ho) X'.inv (rv.mono S) ra e3) (fun new s2 p=> ?_) fun _ _ z=>z))))
  obtain⟨J2,sm2,S2,X2,r2⟩:=p.x XS;refine wpAny_bind (bind_fun hA.hh Wd hy e4 X2 r2 fun s3 hst=> ?_)
  exact wpAny_pure (h _ _ ⟨same_trans sm (same_trans sm2 hst.1),J2,((S.weaken fun _ x=>x.elim).trans S2).trans hst.2.1,hst.2.2,rfl⟩)
 ·cases e1
theorem SX.augAttr(hC:CxOk cx)(hK:ClsOk cx){o e:E}{nm:Nm}{op:Op}{xo x:Expr}{name:PySem.Str}{pos pos':Pos}(h1:SE cx cl n sc fs [] o xo)(h2:SE cx cl n sc fs [] e x)(hn:decide (name.cps.toList=nm)=true)(ho:augOk op=true):
  SX cx cl n W sc fs (.augAttr o nm op e) (.AugAssign (.Attribute xo name pos') (opr op) x pos):=by
 intro env A s J H m fl m' H' Q E' hs hA Wd X e0 h;unfold exS at e0;simp only[Option.bind_eq_bind,Option.bind_eq_some_iff,Prod.exists]at e0;obtain⟨y,H1,e1,old,e2,v,H2,e3,r,H3,e4,H4,e5,e6⟩:=e0;cases e6;have hname:name=⟨nm.toArray⟩:=by
  rw[decide_eq_true_eq]at hn;cases name;simp only at hn;subst hn;simp
 subst hname;refine wpAny_AugAssign_AttributeAny (h1.one hs hA X.ctx e1 fun vo s1 J1 sm1 S1 X1 ro=> ?_)
 refine s_getAttr hC hK X1.inv ro e2 fun vold tk rold=> ?_
 have X1':Ctx cx env fs [] m [] J1 H1 ({ s1 with toks:=tk }:Shared).heap:=X1
 refine h2.one (s:={ s1 with toks:=tk }) hs hA X1' e3 fun va s' J' sm S X' ra=> ?_
 refine wpAny_mono (s_inplV (augOk_or ho) X'.inv (rold.mono S) ra e4) (fun new s2 p=> ?_) fun _ _ z=>z
 obtain⟨sm2,J2,S2,I2,r2⟩:=p;have ro2:Rep J2 s2.heap y vo:=(ro.mono S).mono S2;refine s_setAttr hC hK I2 ro2 r2 e5 fun s3 p3=> ?_
 have XS:=X.step (S1.trans (S.trans S2)) I2;obtain⟨J3,sm3,S3,X3,_⟩:=p3.x XS;exact h _ _ ⟨same_trans sm1 (same_trans ⟨_,tk,rfl⟩ (same_trans sm (same_trans sm2 sm3))),J3,((S1.trans (S.trans S2)).weaken fun _ x=>x.elim).trans S3,X3,rfl⟩
theorem s_getSub{o i v:AV}{vo vi:Value}(hA:AOk A n)(I:Inv cx J H s.heap)(ro:Rep J s.heap o vo)(ri:Rep J s.heap i vi)(h:subV H o i=some v):wpAny cx.M A (getItem vo vi) (EPost cx J s v H) E' s:=by
 have hu:A.units+70<cLine:=by have:=hA.hu;omega
 unfold subV at h;split at h
 ·split at h
  ·obtain⟨t,rfl⟩:=ri
   exact s_getItemTup I ro h
  ·cases h
 ·rename_i k
  obtain⟨a,hJ,rfl⟩:=ro;split at h
  ·rename_i vs hk
   split at h
   ·obtain⟨t,rfl⟩:=ri
    exact s_getItemList I hJ hk h
   ·cases h
  ·rename_i es hk
   split at h
   ·rename_i q
    exact s_getItemDict hu I hJ hk ri q h
   ·cases h
  ·cases h
 ·cases h
theorem SX.augSub{o i e:E}{op:Op}{xo xi x:Expr}{pos pos':Pos}(h1:SE cx cl n sc fs [] o xo)(h2:SE cx cl n sc fs [] i xi)(h3:SE cx cl n sc fs [] e x)(hi:notSlice xi=true)(ho:augOk op=true):
  SX cx cl n W sc fs (.augSub o i op e) (.AugAssign (.Subscript xo xi pos') (opr op) x pos):=by
 intro env A s J H m fl m' H' Q E' hs hA Wd X e0 h;unfold exS at e0;simp only[Option.bind_eq_bind,Option.bind_eq_some_iff,Prod.exists]at e0;obtain⟨y,H1,e1,z,H2,e2,old,e3,v,H3,e4,r,H4,e5,H5,e6,e7⟩:=e0;cases e7;refine wpAny_AugAssign_SubscriptAny (h1.then h2 hs hA X.ctx e1 e2 fun vo vi s1 J1 sm1 S1 X1 ro ri=> ?_) (by intro ov iv new;cases xi<;>first | rfl | cases hi)
 refine wpAny_mono (s_getSub hA X1.inv ro ri e3) (fun vold s2 p2=> ?_) fun _ _ z=>z
 obtain⟨sm2,J2,S2,I2,r2⟩:=p2;refine h3.one hs hA (X1.step S2 I2) e4 fun va s' J' sm S X' ra=> ?_
 refine wpAny_mono (s_inplV (augOk_or ho) X'.inv (r2.mono S) ra e5) (fun new s3 p3=> ?_) fun _ _ z=>z
 obtain⟨sm3,J3,S3,I3,r3⟩:=p3;have S13:=(S2.trans S).trans S3;refine s_setSub hA I3 (ro.mono S13) (ri.mono S13) r3 e6 fun s4 p4=> ?_
 have XS:=X.step (S1.trans S13) I3;obtain⟨J4,sm4,S4,X4,_⟩:=p4.x XS;exact h _ _ ⟨same_trans sm1 (same_trans sm2 (same_trans sm (same_trans sm3 sm4))),J4,((S1.trans S13).weaken fun _ x=>x.elim).trans S4,X4,rfl⟩
theorem SX.while_{t:E}{b:List S}{xt:Expr}{xb:List Stmt}{pos:Pos}(h1:ST cx cl n sc fs [] t xt)(h2:SXL cx cl n W sc fs b xb):SX cx cl n W sc fs (.while_ t b) (.While xt xb [] pos):=by
 intro env A s J H m fl m' H' Q E' hs hA Wd X e0 h;unfold exS at e0;with_reducible refine wpAny_While ?_
 refine codeAny_whileLoop (fun k s1=>∃ J1 H1 m1,whileIt (tstE cl t) (fun m h=>exL cl W b m h) k m1 H1=some (fl,m',H')∧(∃ h tk,s1={ s with heap:=h,toks:=tk })∧Stp J J1 s.heap s1.heap (EAddr env)∧SCtx cx env fs [] m1 [] J1 H1 s1.heap) ?_ W ⟨J,H,m,e0,⟨_,_,rfl⟩,Stp.refl _ _ _,X⟩
 rintro k s1 ⟨J1,H1,m1,e1,sm1,S1,X1⟩
 cases k with
 | zero=>unfold whileIt at e1;cases e1
 | succ k=>
  unfold whileIt at e1;split at e1
  ·rename_i H2 ht
   unfold tstE at ht;simp only[Option.bind_eq_bind,Option.bind_eq_some_iff,Prod.exists]at ht;obtain⟨v,H3,a1,t',a2,a3⟩:=ht;cases a3;refine h1 env A s1 J1 H1 m1 [] v _ true _ _ hs hA X1.ctx a1 a2 fun s2 p=> ?_
   obtain⟨J2,sm2,S2,X2,_⟩:=p.x X1;rw[if_pos rfl];split at e1
   ·rename_i v2 m2 H4 hb
    cases e1;refine h2 env A s2 J2 _ m1 _ _ _ _ _ hs hA Wd X2 hb fun f s3 p3=> ?_
    obtain⟨sm3,J3,S3,X3,r3⟩:=p3;obtain⟨val,rfl,r3⟩:=r3;exact h _ _ ⟨same_trans sm1 (same_trans sm2 sm3),J3,S1.trans (S2.trans S3),X3,val,rfl,r3⟩
   ·rename_i f2 m2 H4 hnr hb
    refine h2 env A s2 J2 _ m1 f2 m2 H4 _ _ hs hA Wd X2 hb fun f s3 p3=> ?_
    obtain⟨sm3,J3,S3,X3,r3⟩:=p3;have fin:∃ mm,mm<k+1∧∃ J1 H1 m1,whileIt (tstE cl t) (fun m h=>exL cl W b m h) mm m1 H1=some (fl,m',H')∧(∃ h tk,s3={ s with heap:=h,toks:=tk })∧Stp J J1 s.heap s3.heap (EAddr env)∧SCtx cx env fs [] m1 [] J1 H1 s3.heap:=
     ⟨k,Nat.lt_succ_self _,J3,H4,m2,e1,same_trans sm1 (same_trans sm2 sm3),S1.trans (S2.trans S3),X3⟩
    cases f2 with
    | next=>cases r3;exact fin
    | cont=>cases r3;exact fin
    | ret v=>exact absurd rfl (hnr v)
   ·cases e1
  ·rename_i H2 ht
   unfold tstE at ht;simp only[Option.bind_eq_bind,Option.bind_eq_some_iff,Prod.exists]at ht;obtain⟨v,H3,a1,t',a2,a3⟩:=ht;cases a3;cases e1;refine h1 env A s1 J1 H1 _ [] v _ false _ _ hs hA X1.ctx a1 a2 fun s2 p=> ?_
   obtain⟨J2,sm2,S2,X2,_⟩:=p.x X1;rw[if_neg Bool.false_ne_true];exact wpAny_execs_nil (h _ _ ⟨same_trans sm1 sm2,J2,S1.trans S2,X2,rfl⟩)
  ·cases e1
theorem SX.for_{t:Tgt}{rng:Bool}{it:E}{b:List S}{xt iter:Expr}{xb:List Stmt}{pos:Pos}(hI:SI cx cl n sc fs [] rng it iter)(ht:tgtAt fs t xt=true)(hns:notSet iter=true)(h2:SXL cx cl n W sc fs b xb):SX cx cl n W sc fs (.for_ t rng it b) (.For xt iter xb [] pos):=by
 intro env A s J H m fl m' H' Q E' hs hA Wd X e0 h;unfold exS at e0;simp only[Option.bind_eq_bind,Option.bind_eq_some_iff,Prod.exists]at e0;obtain⟨y,H1,e1,vs,gd,e2,e3⟩:=e0;refine wpAny_For ?_ (folded_plain hns)
 refine hI env A s J H m [] y H1 vs gd _ _ hs hA X.ctx e1 e2 fun xv s1 J1 sm1 S1 I1 hready=> ?_
 refine hready _ fun I h' hIs kk hit=> ?_
 have X1:=X.step S1 I1;have hsb:s1.heap.get? I=none:=by rw[hIs];exact fresh_size _
 have hb:cx.hb.get? I=none:=new_none I1 hsb;have hIo:¬ EAddr env I:=fun q=>(X1.ctx.out I q).2.1 hsb
 have kkS:Stp J1 J1 s1.heap h' noOwn:=Stp.of_keeps kk;refine codeAny_forLoop_any (fun k s2=>∃ i J2 H2 m2,k=vs.length - i∧forIt gd t (fun m h=>exL cl W b m h) (vs.drop i) m2 H2=some (fl,m',H')∧(∃ h tk,s2={ s1 with heap:=h,toks:=tk })∧Stp J1 J2 s1.heap s2.heap (EAddr env)∧SCtx cx env fs [] m2 [] J2 H2 s2.heap∧I∉J2∧ItAt vs gd I i J2 s2.heap) ?_ (vs.length - 0)
  ⟨0,J1,H1,m,rfl,by rw[List.drop_zero];exact e3,⟨h',_,rfl⟩,kkS.weaken fun _ x=>x.elim,X1.step kkS (I1.keeps kk),fun q=>I1.aliveJ q hsb,hit⟩
 rintro k s2 ⟨i,J2,H2,m2,hk,e3,sm2,S2,X2,hI2,hit2⟩
 by_cases hlt:i<vs.length
 ·rw[List.drop_eq_getElem_cons hlt]at e3
  unfold forIt at e3;split at e3
  ·rename_i hgd
   split at e3
   ·rename_i m3 hbd
    refine it_item X2.ctx.inv hit2 hgd hI2 (List.getElem?_eq_getElem hlt) fun val h3 tk hs3 it3 rv=> ?_
    have nt:=hit2.notTup;have X3:SCtx cx env fs [] m2 [] J2 H2 h3:=X2.extBut hs3.extBut hI2 hb nt hIo;have S3:Stp J1 J2 s1.heap h3 (EAddr env):=S2.extBut hs3.extBut hsb;refine it_letGo (s:={ s2 with heap:=h3,toks:=tk }) it3 ?_
    refine bind_fun (s:={ s2 with heap:=h3,toks:=tk }) hA.hh Wd ht hbd X3 rv fun s4 hst=> ?_
    obtain⟨sm4,S4,X4⟩:=hst;have it4:ItAt vs gd I (i+1) J2 s4.heap:=it3.ext List.prefix_rfl S4.tup fun o e=>S4.keep _ _ e hI2 hIo
    split at e3
    ·rename_i v5 m5 H5 hbody
     cases e3;refine h2 env A s4 J2 H2 m3 _ _ _ _ _ hs hA Wd X4 hbody fun f s5 p5=> ?_
     obtain⟨sm5,J5,S5,X5,val5,rfl,r5⟩:=p5;exact h _ _ ⟨same_trans sm1 (same_trans sm2 (same_trans ⟨_,_,rfl⟩ (same_trans sm4 sm5))),J5,(S1.weaken fun _ x=>x.elim).trans ((S3.trans S4).trans S5),X5,val5,rfl,r5⟩
    ·rename_i f5 m5 H5 hnr hbody
     refine h2 env A s4 J2 H2 m3 f5 m5 H5 _ _ hs hA Wd X4 hbody fun f s5 p5=> ?_
     obtain⟨sm5,J5,S5,X5,r5⟩:=p5;have fin:∃ mm,mm<k∧∃ i J2 H2 m2,mm=vs.length - i∧forIt gd t (fun m h=>exL cl W b m h) (vs.drop i) m2 H2=some (fl,m',H')∧(∃ h tk,s5={ s1 with heap:=h,toks:=tk })∧Stp J1 J2 s1.heap s5.heap (EAddr env)∧SCtx cx env fs [] m2 [] J2 H2 s5.heap∧I∉J2∧ItAt vs gd I i J2 s5.heap:=
      ⟨vs.length - (i+1),by omega,i+1,J5,H5,m5,rfl,e3,same_trans sm2 (same_trans ⟨_,_,rfl⟩ (same_trans sm4 sm5)),(S3.trans S4).trans S5,X5,fun w=>(S5.new I w).elim hI2 (it4.alive ·),it4.ext S5.pre S5.tup fun o e=>S5.keep _ _ e hI2 hIo⟩
     cases f5 with
     | next=>cases r5;exact fin
     | cont=>cases r5;exact fin
     | ret v=>exact absurd rfl (hnr v)
    ·cases e3
   ·cases e3
  ·cases e3
 ·have hge:vs.length≤i:=Nat.not_lt.mp hlt
  rw[List.drop_eq_nil_of_le hge]at e3;unfold forIt at e3;split at e3
  ·rename_i hgd
   cases e3;refine it_end hA.hh X2.ctx.inv hit2 hgd hge fun h3 tk hs3=> ?_
   refine wpAny_execs_nil (h _ _ ⟨same_trans sm1 (same_trans sm2 ⟨h3,tk,rfl⟩),J2,(S1.weaken fun _ x=>x.elim).trans (S2.extBut hs3 hsb),X2.extBut hs3 hI2 hb hit2.notTup hIo,rfl⟩)
  ·cases e3
end
end Mine
end
section
open PySem PySem.W PyProof.Rows PySem.Calls
namespace Mine
variable {M:Model} {A:Around} {E':Value→Shared→Prop} {s:Shared}
theorem zip_lookup:∀ {pn:List PySem.Str} {vals:List Value},pn.length=vals.length→∀ x∈pn,((pn.zip vals).lookup x).isNone=false
 | [],_,_,x,hx=>by cases hx
 | p::pn,[],h,x,hx=>by simp at h
 | p::pn,v::vals,h,x,hx=>by
  rw[List.zip_cons_cons,List.lookup_cons];cases q:x == p with
  | true=>rfl
  | false=>
   simp only;refine zip_lookup (by simpa using h) x ?_
   cases hx with
   | head=>simp at q
   | tail _ hx=>exact hx
theorem zip_filterMap:∀ {pn:List PySem.Str} {vals:List Value},pn.length=vals.length→pn.Nodup→pn.filterMap (fun n=>((pn.zip vals).lookup n).map (n,·))=pn.zip vals:=by
 intro pn vals h nd;have key:∀ (pn:List PySem.Str) (vals:List Value) (pre:List (PySem.Str × Value)),pn.length=vals.length→pn.Nodup→(∀ x∈pn,pre.lookup x=none)→pn.filterMap (fun n=>((pre++pn.zip vals).lookup n).map (n,·))=pn.zip vals:=by
  intro pn;induction pn with
  | nil=>intro vals pre h _ _;simp
  | cons p pn ih=>
   intro vals pre h nd hp;cases vals with
   | nil=>simp at h
   | cons v vals=>
    have e1:(pre++(p::pn).zip (v::vals)).lookup p=some v:=by
     rw[List.lookup_append,hp p List.mem_cons_self,List.zip_cons_cons,List.lookup_cons];simp
    rw[List.filterMap_cons,e1];simp only[Option.map_some,List.zip_cons_cons,List.cons.injEq,true_and];have:=ih vals (pre++[(p,v)]) (by simpa using h) nd.tail (fun x hx=>by
     rw[List.lookup_append,hp x (List.mem_cons_of_mem _ hx)];have:(x == p)=false:=by
      rw[beq_eq_false_iff_ne];rintro rfl;exact (List.nodup_cons.mp nd).1 hx
     simp[List.lookup_cons,this])
    simpa[List.append_assoc] using this
 simpa using key pn vals [] h nd (fun x _=>rfl)
theorem bind_plain{fd:FuncData}{args:List Arg}{dfl:List Expr}{vals:List Value}{r:Option (Array Value)}(hp:fd.params=⟨[],args,none,[],[],none,dfl⟩)(hlen:(args.map (·.arg)).length=vals.length)(nd:(args.map (·.arg)).Nodup)
  (hd:Looks M s.heap (seqItems? fd.defaults) r) {Q:List (PySem.Str × Value)→Shared→Prop} (h:Q ((args.map (·.arg)).zip vals) s):wpAny M A (bindArgs fd ⟨vals,[]⟩) Q E' s:=by
 unfold bindArgs;rw[hp];simp only[List.map_nil,List.nil_append,List.append_nil,List.forIn_nil];refine wpAny_bind (wpAny_pure (wpAny_bind (hd.here ?_)))
 have hng:¬ (vals.length>(args.map (·.arg)).length):=by omega
 generalize args.map (·.arg)=pn at *;simp only[decide_eq_false hng,Bool.false_and,Bool.false_eq_true,if_false,List.map_nil,List.append_nil];have hfil:List.filter (fun n=>(List.lookup n (pn.zip vals)).isNone) (List.take (pn.length - (List.drop ((r.getD #[]).toList.length - pn.length) (r.getD #[]).toList).length) pn)=[]:=by
  rw[List.filter_eq_nil_iff];intro x hx;rw[zip_lookup hlen x (List.mem_of_mem_take hx)];decide
 rw[hfil];simp only[List.isEmpty_nil,Bool.not_true,Bool.false_eq_true,if_false];have same:∀ (l:List (PySem.Str × Value)),(∀ x∈l,x.1∈pn)→∀ {Q':List (PySem.Str × Value)→Shared→Prop},Q' (pn.zip vals) s→
   wpAny M A (forIn l (pn.zip vals) fun x __s=>if (List.lookup x.fst __s).isNone=true then pure (ForInStep.yield (__s++[(x.fst,x.snd)])) else pure (ForInStep.yield __s)) Q' E' s:=by
  intro l;induction l with
  | nil=>intro _ Q' hq;rw[List.forIn_nil];exact wpAny_pure hq
  | cons x l ih=>
   intro hl Q' hq;rw[List.forIn_cons,zip_lookup hlen _ (hl x List.mem_cons_self),if_neg Bool.false_ne_true];exact wpAny_bind (wpAny_pure (ih (fun y hy=>hl y (List.mem_cons_of_mem _ hy)) hq))
 refine wpAny_bind (same _ (fun x hx=>List.mem_of_mem_drop (List.of_mem_zip hx).1) ?_)
 refine wpAny_bind (wpAny_pure ?_)
 simp only[List.isEmpty_nil,Bool.not_true,Bool.false_eq_true,if_false];rw[zip_filterMap hlen nd];exact wpAny_pure h
theorem cellsFrom_keys:∀ (l:List (PySem.Str × NameKind)) (n:Nat) (acc:List (PySem.Str × Addr)),(l.map (·.1)).Nodup→(acc.map (·.1)).Nodup→(∀ x∈l,x.1∉acc.map (·.1))→((cellsFrom n l acc).map (·.1)).Nodup
 | [],n,acc,_,h,_=>h
 | (x,k)::r,n,acc,h1,h2,h3=>by
  unfold cellsFrom;rw[List.map_cons,List.nodup_cons]at h1;split
  ·refine cellsFrom_keys r (n+1) _ h1.2 ?_ ?_
   ·rw[List.map_cons,List.nodup_cons];exact⟨h3 _ List.mem_cons_self,h2⟩
   ·intro y hy q
    rw[List.map_cons]at q;cases q with
    | head=>exact h1.1 (List.mem_map_of_mem (f:=(·.1)) hy)
    | tail _ q=>exact h3 y (List.mem_cons_of_mem _ hy) q
  ·exact cellsFrom_keys r n acc h1.2 h2 fun y hy=>h3 y (List.mem_cons_of_mem _ hy)
theorem cellsFrom_mem:∀ (l:List (PySem.Str × NameKind)) (n:Nat) (acc:List (PySem.Str × Addr)) (x:PySem.Str),((x,NameKind.cell)∈l∨∃ c,(x,c)∈acc)→∃ c,(x,c)∈cellsFrom n l acc
 | [],n,acc,x,h=>by
  rcases h with h | h
  ·cases h
  ·exact h
 | (y,k)::r,n,acc,x,h=>by
  unfold cellsFrom;split
  ·refine cellsFrom_mem r (n+1) _ x ?_
   rcases h with h | ⟨c,h⟩
   ·cases h with
    | head=>exact .inr ⟨n,List.mem_cons_self⟩
    | tail _ h=>exact .inl h
   ·exact .inr ⟨c,List.mem_cons_of_mem _ h⟩
  ·rename_i hk
   refine cellsFrom_mem r n acc x ?_
   rcases h with h | h
   ·cases h with
    | head=>exact absurd rfl hk
    | tail _ h=>exact .inl h
   ·exact .inr h
theorem lookup_of_mem{α:Type}:∀ {l:List (PySem.Str × α)} {x:PySem.Str} {c:α},(l.map (·.1)).Nodup→(x,c)∈l→l.lookup x=some c
 | (y,b)::r,x,c,h,m=>by
  rw[List.map_cons,List.nodup_cons]at h;rw[List.lookup_cons];cases m with
  | head=>simp
  | tail _ m=>
   have:(x == y)=false:=by
    rw[beq_eq_false_iff_ne];rintro rfl;exact h.1 (List.mem_map_of_mem (f:=(·.1)) m)
   rw[this];exact lookup_of_mem h.2 m
theorem bindL_get{k:PySem.Str→Option NameKind}:∀ {binds:List (PySem.Str × Value)} {m:PySem.Str→Option Value} {x:PySem.Str},(binds.map (·.1)).Nodup→k x=some .local→bindL k binds m x=(match binds.lookup x with | some v=>some v | none=>m x)
 | [],m,x,_,_=>rfl
 | (y,v)::r,m,x,h,hk=>by
  rw[List.map_cons,List.nodup_cons]at h;unfold bindL;rw[bindL_get h.2 hk,List.lookup_cons];by_cases q:x=y
  ·subst q
   have hn:r.lookup x=none:=by
    cases e:r.lookup x with
    | none=>rfl
    | some w=>exact absurd (List.mem_map_of_mem (f:=(·.1)) (mem_of_lookup e)) h.1
   simp[hn,hk]
  ·have:(x == y)=false:=by simpa using q
   rw[this];simp only;cases r.lookup x with
   | some w=>rfl
   | none=>simp only;split<;>simp[q]
theorem bindC_get{k:PySem.Str→Option NameKind}:∀ {binds:List (PySem.Str × Value)} {m:PySem.Str→Option Value} {x:PySem.Str},(binds.map (·.1)).Nodup→k x≠some .local→bindC k binds m x=(match binds.lookup x with | some v=>some v | none=>m x)
 | [],m,x,_,_=>rfl
 | (y,v)::r,m,x,h,hk=>by
  rw[List.map_cons,List.nodup_cons]at h;unfold bindC;rw[bindC_get h.2 hk,List.lookup_cons];by_cases q:x=y
  ·subst q
   have hn:r.lookup x=none:=by
    cases e:r.lookup x with
    | none=>rfl
    | some w=>exact absurd (List.mem_map_of_mem (f:=(·.1)) (mem_of_lookup e)) h.1
   simp[hn,hk]
  ·have:(x == y)=false:=by simpa using q
   rw[this];simp only;cases r.lookup x with
   | some w=>rfl
   | none=>simp only;split<;>simp[q]
end Mine
end
section
open PySem PySem.W PyProof.Rows PySem.Calls
namespace Mine
structure FnOk(cx:Cx)(fa:Nat→Addr)(f:Nat)(fn:Fn)(name qual:PySem.Str)(args:List Arg)(dfl:List Expr)(body:List Stmt)(scope:Scope)(dV kV doc pm:Value)(an:Option Addr)(cdv ct oc:Value)(od:Option Addr)(osl:Array (Option Value))(fs:List PySem.Str):Prop where
 look:cx.K.lookup (fa f)=some ⟨oc,od,.func (fnOf name qual ⟨[],args,none,[],[],none,dfl⟩ body scope dV kV doc pm an cdv ct),osl⟩
 code:codeIn cx.K cdv qual=true
 seq:∃ r,∀ S,peek cx.K S (seqItems? dV)=some r
 co:scope.isCoroutine=false
 gen:scope.isGenerator=false
 kind:scope.kind= .function
 np:args.length=fn.np
 npl:fn.np≤fn.nl
 take:fs.take fn.np=args.map (·.arg)
 len:fs.length=fn.nl
 nodup:fs.Nodup
 kinds:∀ x∈fs,scope.names.lookup x=some .local∨scope.names.lookup x=some .cell
 nd:(scope.names.map (·.1)).Nodup
 nofree:∀ x,scope.names.lookup x≠some .free
 body:∀ (n W:Nat) (cl:Caller),CallOk cx fa cl n→SXL cx cl n W scope fs fn.body body
section
variable {cx:Cx} {fa:Nat→Addr} {P:Nat→Option Fn}
theorem call_step(hC:CxOk cx){f:Nat}{fn:Fn}{name qual:PySem.Str}{args:List Arg}{dfl:List Expr}{body:List Stmt}{scope:Scope}{dV kV doc pm:Value}{an:Option Addr}{cdv ct oc:Value}{od:Option Addr}{osl:Array (Option Value)}{fs:List PySem.Str}
  (F:FnOk cx fa f fn name qual args dfl body scope dV kV doc pm an cdv ct oc od osl fs) {W n:Nat} {cl:Caller} (hcl:CallOk cx fa cl n) {vs:List AV} {H:Hp} {fl:Fl} {m':Loc} {H':Hp} (hlen:vs.length=fn.np)
  (e:exL cl W fn.body (vs.map some++List.replicate (fn.nl - fn.np) none) H=some (fl,m',H')) {A:Around} {s:Shared} {J:Jm} {vals:List Value} {R:Result→Shared→Prop} (hA:AOkC A (n+1)) (I:Inv cx J H s.heap) (r:RepL J s.heap vs vals)
  (h:∀ val s',EPost cx J s (match fl with | .ret v=>v | _=> .none) H' val s'→R (.ok (.ret val)) s'):codeAny cx.M A (.call (.ref (fa f)) ⟨vals,[]⟩) R s:=by
 have hroom:A.depth<recursionLimit:=by have:=hA.2.1;omega
 have X:=I.K hC;have hvl:=r.length;have han:(args.map (·.arg)).length=vals.length:=by rw[List.length_map,F.np,hvl,hlen]
 have hand:(args.map (·.arg)).Nodup:=by rw[← F.take];exact F.nodup.sublist (List.take_sublist _ _)
 have hmap:((args.map (·.arg)).zip vals).map (·.1)=args.map (·.arg):=by
  rw[List.map_fst_zip];omega
 obtain⟨rr,hr⟩:=F.seq;refine codeAny_call_function hroom (X _ _ F.look) rfl F.co F.gen rfl (codeRec_of X F.code) (bind_plain rfl han hand (Looks.of_peek X (hr _)) ?_)
 have argIn:∀ x∈args.map (·.arg),x∈fs:=fun x hx=>by rw[← F.take]at hx;exact List.mem_of_mem_take hx
 have ckeys:∀ k,((cellsFrom k scope.names []).map (·.1)).Nodup:=fun k=>cellsFrom_keys scope.names k [] F.nd List.nodup_nil (fun x _ q=>by cases q)
 have cellAt:∀ k x,scope.names.lookup x=some .cell→∃ c,(cellsFrom k scope.names []).lookup x=some c:=fun k x hx=>by
  obtain⟨c,hc⟩:=cellsFrom_mem scope.names k [] x (.inl (mem_of_lookup hx));exact⟨c,lookup_of_mem (ckeys k) hc⟩
 refine wpAny_newFunctionEnv_cells F.kind (fun x hx=> ?_) fun env he s1 x=> ?_
 ·have hx1:x.1∈args.map (·.arg):=by rw[← hmap];exact List.mem_map_of_mem hx
  rcases F.kinds x.1 (argIn _ hx1) with k | k
  ·exact .inl k
  ·obtain⟨c,hc⟩:=cellAt (s.heap.objs.size+1) x.1 k
   exact .inr ⟨k,by rw[hc];rfl⟩
 subst he;refine⟨(hC.T.nolimit.keeps I.base).keeps x.toInCall.keep,codeAny_func ?_⟩
 generalize hEnv:newEnv (fnOf name qual ⟨[],args,none,[],[],none,dfl⟩ body scope dV kV doc pm an cdv ct).scope s.heap.objs.size (fnOf name qual ⟨[],args,none,[],[],none,dfl⟩ body scope dV kV doc pm an cdv ct).globals (cellsFrom (s.heap.objs.size+1) (fnOf name qual ⟨[],args,none,[],[],none,dfl⟩ body scope dV kV doc pm an cdv ct).scope.names []) ((fnOf name qual ⟨[],args,none,[],[],none,dfl⟩ body scope dV kV doc pm an cdv ct).qualname++ ".<locals>.") (some (fa f)) (fnOf name qual ⟨[],args,none,[],[],none,dfl⟩ body scope dV kV doc pm an cdv ct).code none (fnOf name qual ⟨[],args,none,[],[],none,dfl⟩ body scope dV kV doc pm an cdv ct).builtins=env at *;have eS:env.scope=scope:=by rw[← hEnv];rfl
 have eL:env.locals=s.heap.objs.size:=by rw[← hEnv];rfl
 have eG:env.globals=mainGlobals:=by rw[← hEnv];rfl
 have eB:env.builtins=builtinsNs:=by rw[← hEnv];rfl
 have eC:env.cells=cellsFrom (s.heap.objs.size+1) scope.names []:=by rw[← hEnv];rfl
 have eF:env.func≠none:=by rw[← hEnv];exact Option.some_ne_none _
 obtain⟨⟨h1,tk1,sm1⟩,hns,hkeep,hfresh⟩:=x.toInCall;have S1:Stp J J s.heap s1.heap noOwn:=Stp.of_keeps hkeep;have I1:Inv cx J H s1.heap:=I.keeps hkeep;have fresh:∀ a,s.heap.objs.size≤a→s.heap.get? a=none:=fun a ha=>by
  cases q:s.heap.get? a with
  | none=>rfl
  | some o=>exact absurd (Heap.lt_size q) (Nat.not_lt.mpr ha)
 have cIs:∀ p∈env.cells,s1.heap.IsCell p.2 (bindC env.kindOf ((args.map (·.arg)).zip vals) (fun _=>none) p.1):=fun p hp=>by
  refine x.cell p.1 p.2 ?_
  rw[eC]at hp ⊢;exact lookup_of_mem (ckeys _) hp
 have eaddr:∀ a,EAddr env a→s.heap.get? a=none:=fun a ea=>by
  rcases ea with ea | ⟨y,hy⟩
  ·exact fresh a (by rw[ea,eL];exact Nat.le_refl _)
  ·exact fresh a (Nat.le_of_lt (by have:=x.above y a hy;rw[eL]at this;exact this))
 have hnp:(fs.take fn.np).length=fn.np:=by rw[F.take,List.length_map,F.np]
 have SC:SCtx cx env fs [] (vs.map some++List.replicate (fn.nl - fn.np) none) [] J H s1.heap:=by
  refine⟨⟨I1,by rw[eS];exact F.kind,eG,eB,fun a ea=>⟨fun q=>I.aliveJ q (eaddr a ea),?_,new_none I (eaddr a ea)⟩,fun i y v hy _ hm=> ?_,fun i y v hy _=>by simp at hy,rfl,fun y hy=> ?_⟩,⟨⟨_,hns⟩,fun _ p hp=>⟨_,cIs p hp⟩⟩⟩
  ·rcases ea with ea | ⟨y,hy⟩
   ·rw[ea];exact Ns.alive hns
   ·exact IsCell.alive (cIs _ hy)
  ·have hi:i<fn.np:=by
    rcases Nat.lt_or_ge i fn.np with q | q
    ·exact q
    ·rw[List.getElem?_append_right (by rw[List.length_map,hlen];exact q),List.getElem?_replicate]at hm
     split at hm<;>cases hm
   rw[List.getElem?_append_left (by rw[List.length_map,hlen];exact hi),List.getElem?_map]at hm
   simp only[Option.map_eq_some_iff,Option.some.injEq]at hm;obtain⟨w,hw,rfl⟩:=hm;obtain⟨val,hval,rv⟩:=r.get hw;have hya:(args.map (·.arg))[i]? =some y:=by
    rw[← F.take,List.getElem?_take_of_lt hi];exact hy
   have hz:((args.map (·.arg)).zip vals).lookup y=some val:=by
    refine lookup_of_mem (by rw[hmap];exact hand) ?_
    refine List.mem_of_getElem? (i:=i) ?_
    rw[List.getElem?_zip_eq_some];exact⟨hya,hval⟩
   refine⟨val,rv.mono S1,?_⟩
   rcases F.kinds y (List.mem_of_getElem? hy) with k | k
   ·have k':env.kindOf y=some .local:=by show env.scope.names.lookup y=_;rw[eS];exact k
    refine .inl ⟨k',_,hns,?_⟩
    rw[bindL_get (by rw[hmap];exact hand) k',hz]
   ·have k':env.kindOf y=some .cell:=by show env.scope.names.lookup y=_;rw[eS];exact k
    obtain⟨c,hc⟩:=cellAt (s.heap.objs.size+1) y k;rw[← eC]at hc;refine .inr ⟨.inl k',c,hc,?_⟩
    have:=cIs _ (mem_of_lookup hc);rw[bindC_get (by rw[hmap];exact hand) (by rw[k'];decide),hz]at this
    exact this
  ·have hk:scope.names.lookup y=some .cell:=by
    rcases hy with q | q
    ·have:env.scope.names.lookup y=some .cell:=q
     rwa [eS]at this
    ·have:env.scope.names.lookup y=some .free:=q
     rw[eS]at this;exact absurd this (F.nofree y)
   obtain⟨c,hc⟩:=cellAt (s.heap.objs.size+1) y hk;rw[← eC]at hc;exact⟨c,hc⟩
 have SO:StoreOk env fs:=by
  refine⟨by rw[eS];exact F.kind,fun p hp q=> ?_,fun y hy=> ?_,F.nodup⟩
  ·have:=x.above p.1 p.2 hp
   rw[q]at this;exact absurd this (Nat.lt_irrefl _)
  ·rcases F.kinds y hy with k | k
   ·exact .inl (by show env.scope.names.lookup y=_;rw[eS];exact k)
   ·obtain⟨c,hc⟩:=cellAt (s.heap.objs.size+1) y k
    rw[← eC]at hc;exact .inr ⟨by show env.scope.names.lookup y=_;rw[eS];exact k,⟨c,hc⟩,eF,x.apart⟩
 have hAO:AOk (A.deeper env) n:=⟨hA.1,by show A.depth+1+_+_<_;have:=hA.2.1;omega,by show A.units+3+_+_<_;have:=hA.2.2;omega⟩
 refine F.body n W cl hcl env (A.deeper env) s1 J H _ fl m' H' _ _ eS hAO SO SC e fun fr s' p=> ?_
 obtain⟨sm2,J2,S2,X2,fr2⟩:=p;have Sall:Stp J J2 s.heap s'.heap noOwn:=⟨S2.pre,fun a ha=>(S2.new a ha).imp_right (stp_none S1),fun b o eb hJ _=>S2.keep b o (hkeep b o eb) hJ (fun w=>by rw[eaddr b w]at eb;cases eb),fun b its q eb=>S2.tup b its q (hkeep b _ eb),fun b eb=>S2.alive b (S1.alive b eb)⟩
 refine h _ _ ⟨same_trans ⟨h1,tk1,sm1⟩ sm2,J2,Sall,X2.ctx.inv,?_⟩
 cases fl with
 | next=>cases fr2;exact rfl
 | cont=>cases fr2;exact rfl
 | ret v=>obtain ⟨val,rfl,q⟩:=fr2;exact q
def FnAll(cx:Cx)(fa:Nat→Addr)(f:Nat)(fn:Fn):Prop:=∃ (name qual:PySem.Str) (args:List Arg) (dfl:List Expr) (body:List Stmt) (scope:Scope) (dV kV doc pm:Value) (an:Option Addr) (cdv ct oc:Value) (od:Option Addr) (osl:Array (Option Value)) (fs:List PySem.Str),
 FnOk cx fa f fn name qual args dfl body scope dV kV doc pm an cdv ct oc od osl fs
theorem callOk(hC:CxOk cx)(hP:∀ f fn,P f=some fn→FnAll cx fa f fn)(W:Nat):∀ n,CallOk cx fa (callF P W n) n
 | 0=>by intro f vs H v H' e;cases e
 | n+1=>by
  intro f vs H v H' e A s J vals R hA I r h;unfold callF at e;split at e
  ·rename_i fn hf
   obtain⟨_,_,_,_,_,_,_,_,_,_,_,_,_,_,_,_,_,F⟩:=hP f fn hf;split at e
   ·rename_i hlen
    split at e
    ·rename_i v2 m2 H2 eb
     cases e;exact call_step hC F (callOk hC hP W n) hlen eb hA I r h
    ·rename_i fl m2 H2 hnr eb
     cases e;refine call_step hC F (callOk hC hP W n) hlen eb hA I r fun val s' p=>h val s' ?_
     cases fl with
     | next=>exact p
     | cont=>exact p
     | ret w=>exact absurd rfl (hnr w)
    ·cases e
   ·cases e
  ·cases e
end
end Mine
end
section
open PySem
namespace Mine
def gFns:List (PySem.Str × Nat):=[(PySem.Str.ofString "is_state_kind",1),(PySem.Str.ofString "state_cells",9),(PySem.Str.ofString "drivers",10),(PySem.Str.ofString "ordered_cells",11),(PySem.Str.ofString "comb_order",12),(PySem.Str.ofString "row_number",13),(PySem.Str.ofString "full_table",14),(PySem.Str.ofString "var_table",15),(PySem.Str.ofString "cofactor",16),(PySem.Str.ofString "depends",17),(PySem.Str.ofString "support",18),(PySem.Str.ofString "spread",19),(PySem.Str.ofString "shrink",20),(PySem.Str.ofString "final_net",21),(PySem.Str.ofString "rebuilt_cells",22),(PySem.Str.ofString "rebuilt",23),(PySem.Str.ofString "and_form",24),(PySem.Str.ofString "or_form",25),(PySem.Str.ofString "xor_form",26),(PySem.Str.ofString "turned_form",27),(PySem.Str.ofString "gate_form",28),(PySem.Str.ofString "select_form",29),(PySem.Str.ofString "table_bit",30),(PySem.Str.ofString "table_over",31),(PySem.Str.ofString "table_form",32),(PySem.Str.ofString "are_opposite",33),(PySem.Str.ofString "library_form",34),(PySem.Str.ofString "simple_form",35),(PySem.Str.ofString "fold_constants",36),(PySem.Str.ofString "drop_buffers",37),(PySem.Str.ofString "used_cells",38),(PySem.Str.ofString "drop_unused",39),(PySem.Str.ofString "_law_pick",40),(PySem.Str.ofString "_law_table",41),(PySem.Str.ofString "_law_near",42),(PySem.Str.ofString "_law_netlist",43),(PySem.Str.ofString "_law_states",44),(PySem.Str.ofString "_law_patterns",45),(PySem.Str.ofString "_law_word",46),(PySem.Str.ofString "_law_words",47),(PySem.Str.ofString "_law_sinks",48),(PySem.Str.ofString "_law_kept",49),(PySem.Str.ofString "_law_foldable",50),(PySem.Str.ofString "_law_used",51),(PySem.Str.ofString "law",52)]
def gMeths:List (PySem.Str × Nat):=[("new_net",2),("new_nets",3),("add_input",4),("add_output",5),("add_cell",6),("drive",7),("sources",8)]
def gInts:List (PySem.Str × Int):=[("CONST0",0),("CONST1",1)]
def gBis:List (PySem.Str × Value):=[("len",.builtin "len"),("list",.type "list"),("tuple",.type "tuple"),("sum",.builtin "sum"),("min",.builtin "min"),("str",.type "str"),("set",.type "set"),("range",.type "range")]
def names:Nat→List PySem.Str
 | 0=>["self","name"]
 | 1=>["kind"]
 | 2=>["self","net"]
 | 3=>["self","width"]
 | 4=>["self","name","width","nets"]
 | 5=>["self","name","nets"]
 | 6=>["self","kind","ins","param","out"]
 | 7=>["self","out","kind","ins","param"]
 | 8=>["self","nets","name","bits","cell"]
 | 9=>["netlist","found","index"]
 | 10=>["netlist","taken","name","bits","net","found","index"]
 | 11=>["netlist","driven","cells","waiting","users","ready","index","count","net","before","turn"]
 | 12=>["netlist","order"]
 | 13=>["bits","row","place"]
 | 14=>["k"]
 | 15=>["i","k","full"]
 | 16=>["t","i","bit","k","high","low"]
 | 17=>["t","i","k"]
 | 18=>["t","k","found","i"]
 | 19=>["m","places","row","j"]
 | 20=>["t","k","kept","result","m"]
 | 21=>["replaced","net"]
 | 22=>["netlist","cells","replaced","result","name","nets","kind","out","ins","param"]
 | 23=>["netlist","replaced"]
 | 24=>["a","b","opposite"]
 | 25=>["a","b","opposite"]
 | 26=>["a","b","opposite"]
 | 27=>["form","kind","ins"]
 | 28=>["kind","a","b","opposite"]
 | 29=>["s","a","b"]
 | 30=>["net","kept","row"]
 | 31=>["table","ins","kept","small","row","bits"]
 | 32=>["table","ins","kept","net","small","places","nets"]
 | 33=>["inverse","a","b"]
 | 34=>["ins","param","kind","nets","table"]
 | 35=>["cell","ins","inverse","kind","param"]
 | 36=>["netlist","cells","replaced","inverse","index","cell","out","ins","kind","param"]
 | 37=>["netlist","replaced","inverted","index","kind","out","ins","param","net"]
 | 38=>["netlist","driven","used","pending","name","nets","index"]
 | 39=>["netlist","used","cells","index"]
 | 40=>["hand","limit","number","digit"]
 | 41=>["kind","param"]
 | 42=>["hand","pool"]
 | 43=>["hand","most","holds","kinds","net","pool","outs","_","kind","wide","param","turn","edge","init","first","ins"]
 | 44=>["net"]
 | 45=>["net","keys","rows","patterns","turn"]
 | 46=>["table","words","full","total","row","part","turn"]
 | 47=>["net","patterns","full","words","name","nets","step","cell","left","_","again"]
 | 48=>["net","patterns","full","words","ports","states","cell"]
 | 49=>["old","new","patterns","full","ports","states","told","left"]
 | 50=>["cell","kind","out","ins","param"]
 | 51=>["net","wanted","_","cell"]
 | 52=>["script","cells","hand","net","held","patterns","full","bent","direct","used","made","names","last"]
 | _=>[]
end Mine
end
section
open PySem PySem.W PyProof.Rows PySem.Calls
namespace Mine
def gl(sc:Scope)(id:PySem.Str):Bool:=sc.names.lookup id == some .globalImplicit&& !(id == ("__debug__" :PySem.Str))
def varName(id:PySem.Str):Bool:= !(id == ("__debug__" :PySem.Str))&& !(id == ("__classdict__" :PySem.Str))
def testable:Expr→Bool
 | .IfExp _ _ _ _=>false
 | _=>true
def tnames:Expr→List PySem.Str
 | .Name x _=>[x]
 | .Tuple ts _ _=>ts.flatMap fun | .Name x _=>[x] | _=>[]
 | _=>[]
def namesOf(gens:List Comprehension):List PySem.Str:=gens.flatMap fun g=>tnames g.target
def compScopeB(scope sc:Scope)(ns:List PySem.Str):Bool:=
 scope.kind == .function&&sc.kind == .function&&scope.names.all (fun x=>x.2 != .cell)&&scope.names.all (fun x=>x.2 != .local || scope.names.lookup x.1 == some .local)
  &&scope.names.all (fun x=>x.2 != .free || sc.names.lookup x.1 == some .cell || sc.names.lookup x.1 == some .free)&&ns.all (fun x=>scope.names.lookup x == some .local)&&decide ns.Nodup&& !ns.isEmpty
def iterX(sc:Scope)(rng:Bool)(x:Expr):Option Expr:=match rng with
 | true=>(match x with
  | .Call (.Name id _) [xe] [] _=>if gl sc id&&gBis.lookup id == some (.type "range")&&notStar xe then some xe else none
  | _=>none)
 | false=>some x
mutual
def okE(sc:Scope)(fs cs:List PySem.Str)(e:E)(x:Expr):Bool:=match e with
 | .const v=>(match x with
  | .Constant k _ _=>constIs v k
  | .Name id _=>(match v with
   | .int i=>gl sc id&&gInts.lookup id == some i
   | _=>false)
  | _=>false)
 | .loc i=>(match x with
  | .Name id _=>(if cs.isEmpty then fs else cs)[i]? == some id&&varName id
  | _=>false)
 | .free i=>(match x with
  | .Name id _=>fs[i]? == some id&&varName id&&(sc.names.lookup id == some .cell || sc.names.lookup id == some .free)
  | _=>false)
 | .bin o a b=>(match x with
  | .BinOp xa op xb _=>op == opr o&&okE sc fs cs a xa&&okE sc fs cs b xb
  | _=>false)
 | .neg a=>(match x with
  | .UnaryOp .USub xa _=>okE sc fs cs a xa
  | _=>false)
 | .not a=>(match x with
  | .UnaryOp .Not xa _=>testable xa&&okE sc fs cs a xa
  | _=>false)
 | .bop k es=>(match x with
  | .BoolOp op xs _=>bopIs k op&&xs.all testable&&okL sc fs cs es xs
  | _=>false)
 | .cmp o a b=>(match x with
  | .Compare xa [op] [xb] _=>op == cop o&& !behindInMarks (cop o) xb&&okE sc fs cs a xa&&okE sc fs cs b xb
  | _=>false)
 | .ite t a b=>(match x with
  | .IfExp xt xa xb _=>testable xt&&okE sc fs cs t xt&&okE sc fs cs a xa&&okE sc fs cs b xb
  | _=>false)
 | .tup es=>(match x with
  | .Tuple xs _ _=>xs.all notStar&&decide (es.length≤100)&&okL sc fs cs es xs
  | _=>false)
 | .list es=>(match x with
  | .List xs _=>xs.all notStar&&decide (es.length≤100)&&okL sc fs cs es xs
  | _=>false)
 | .dict kvs=>(match x with
  | .Dict ks xs _=>ks.all (·.isSome)&&ks.length == xs.length&&decide (ks.length≤15)&&decide (kvs.length≤100)&&okP sc fs cs kvs ks xs
  | _=>false)
 | .attr o nm=>(match x with
  | .Attribute xo name _=>decide (name.cps.toList=nm)&&plainBase xo&&okE sc fs cs o xo
  | _=>false)
 | .sub o i=>(match x with
  | .Subscript xo xi _=>notSlice xi&&okE sc fs cs o xo&&okE sc fs cs i xi
  | _=>false)
 | .slice o n=>(match x with
  | .Subscript (.Name y p) (.Slice none (some (.Constant (.int k) _ _)) none _) _=>k == (n:Int)&&okE sc fs cs o (.Name y p)
  | _=>false)
 | .call f es=>(match x with
  | .Call (.Name id _) xs [] _=>gl sc id&&gFns.lookup id == some f&&xs.all notStar&&okL sc fs cs es xs
  | _=>false)
 | .new es=>(match x with
  | .Call (.Name id _) xs [] _=>gl sc id&&id == ("Netlist" :PySem.Str)&&xs.all notStar&&okL sc fs cs es xs
  | _=>false)
 | .meth o f es=>(match x with
  | .Call (.Attribute xo name apos) xs [] pos=>plainBase xo&&xs.all notStar&&decide (xs.length<20)&&(apos.endLine == pos.line)&&gMeths.lookup name == some f&&okE sc fs cs o xo&&okL sc fs cs es xs
  | _=>false)
 | .bi b es=>(match x with
  | .Call (.Name id _) xs [] _=>gl sc id&&(match b with
   | .lenset=>(match xs with
    | [.Call (.Name id2 _) ys [] _]=>gBis.lookup id == some (.builtin "len")&&gl sc id2&&gBis.lookup id2 == some (.type "set")&&ys.all notStar&&decide (ys.length=1)&&okL sc fs cs es ys
    | _=>false)
   | _=>(match biVal b with
    | some v=>gBis.lookup id == some v&&xs.all notStar&&okL sc fs cs es xs
    | none=>false))
  | _=>false)
 | .bm b o es=>(match x with
  | .Call (.Attribute xo name apos) xs [] pos=>plainBase xo&&xs.all notStar&&decide (xs.length<20)&&(apos.endLine == pos.line)&&decide (name.cps.toList=bmName b)&&okE sc fs cs o xo&&okL sc fs cs es xs
  | _=>false)
 | .comp k t rng it g=>(match x with
  | .ListComp elt (⟨target,iter,ifs,asy⟩::rest) scope pos=>
   let ns:=namesOf (⟨target,iter,ifs,asy⟩::rest)
   asy == 0&&compScopeB scope sc ns&&k == ns.length&&tgtAt ns t target&&notSet iter&&(match iterX sc rng iter with | some y=>okE sc fs cs it y | none=>false)&&okG (relabelS scope sc) fs ns elt rest g ifs
  | _=>false)
def okL(sc:Scope)(fs cs:List PySem.Str)(es:List E)(xs:List Expr):Bool:=match es with
 | []=>xs.isEmpty
 | e::es=>(match xs with
  | x::xs=>okE sc fs cs e x&&okL sc fs cs es xs
  | []=>false)
def okP(sc:Scope)(fs cs:List PySem.Str)(es:List E)(ks:List (Option Expr))(xs:List Expr):Bool:=match es with
 | []=>ks.isEmpty&&xs.isEmpty
 | [_]=>false
 | k::e::es=>(match ks,xs with
  | some xk::ks,x::xs=>okE sc fs cs k xk&&okE sc fs cs e x&&okP sc fs cs es ks xs
  | _,_=>false)
def okG(sc:Scope)(fs cs:List PySem.Str)(elt:Expr)(rest:List Comprehension)(g:G)(ifs:List Expr):Bool:=match g with
 | .elt e=>rest.isEmpty&&ifs.isEmpty&&okE sc fs cs e elt
 | .if_ e g=>(match ifs with
  | i::ifs=>testable i&&okE sc fs cs e i&&okG sc fs cs elt rest g ifs
  | []=>false)
 | .for_ t rng it g=>ifs.isEmpty&&(match rest with
  | ⟨target,iter,ifs',asy⟩::rest=>asy == 0&&tgtAt cs t target&&notSet iter&&(match iterX sc rng iter with | some y=>okE sc fs cs it y | none=>false)&&okG sc fs cs elt rest g ifs'
  | []=>false)
end
def swapB(sc:Scope)(x:Expr)(t:Expr)(line:Nat):Bool:=match x with
 | .ListComp _ _ scope pos=>(match t with
  | .Name y p=>(if sc.kind.isAnnotationScope then ScopeKind.function else sc.kind) == .function&&sc.names.lookup y == some .local&&p.line == pos.line&& !(scope.names.any fun (n,k)=>n == y&&(k == .local || k == .cell))
  | _=>false)
 | _=>false
mutual
def okS(sc:Scope)(fs:List PySem.Str)(st:S)(x:Stmt):Bool:=match st with
 | .fail=>true
 | .cont=>(match x with
  | .Continue _=>true
  | _=>false)
 | .pass=>(match x with
  | .Pass _=>true
  | _=>false)
 | .ret e=>(match x with
  | .Return (some y) _=>okE sc fs [] e y
  | _=>false)
 | .expr e=>(match x with
  | .Expr y _=>notComp y&&okE sc fs [] e y
  | _=>false)
 | .assign t e=>(match x with
  | .Assign [xt] y pos=>tgtAt fs t xt&&tgtVal xt y&&(notComp y || (match y with
   | .ListComp _ _ _ _=>true
   | _=>false))&&okE sc fs [] e y&&(!swapB sc y xt pos.line || (match t,xt with
   | .one _,.Name _ _=>true
   | _,_=>false))
  | _=>false)
 | .setAttr o nm e=>(match x with
  | .Assign [.Attribute xo name _] y _=>decide (name.cps.toList=nm)&&notComp y&&okE sc fs [] e y&&okE sc fs [] o xo
  | _=>false)
 | .setSub o i e=>(match x with
  | .Assign [.Subscript xo xi _] y _=>notComp y&&okE sc fs [] e y&&okE sc fs [] o xo&&okE sc fs [] i xi
  | _=>false)
 | .augLoc i op e=>(match x with
  | .AugAssign (.Name y p) o z _=>tgtAt fs (.one i) (.Name y p)&&varName y&&o == opr op&&augOk op&&okE sc fs [] e z
  | _=>false)
 | .augAttr o nm op e=>(match x with
  | .AugAssign (.Attribute xo name _) ox z _=>decide (name.cps.toList=nm)&&ox == opr op&&augOk op&&okE sc fs [] o xo&&okE sc fs [] e z
  | _=>false)
 | .augSub o i op e=>(match x with
  | .AugAssign (.Subscript xo xi _) ox z _=>notSlice xi&&ox == opr op&&augOk op&&okE sc fs [] o xo&&okE sc fs [] i xi&&okE sc fs [] e z
  | _=>false)
 | .ite t b o=>(match x with
  | .If xt xb xo _=>testable xt&&okE sc fs [] t xt&&okSL sc fs b xb&&okSL sc fs o xo
  | _=>false)
 | .while_ t b=>(match x with
  | .While xt xb [] _=>testable xt&&okE sc fs [] t xt&&okSL sc fs b xb
  | _=>false)
 | .for_ t rng it b=>(match x with
  | .For xt iter xb [] _=>tgtAt fs t xt&&notSet iter&&(match iterX sc rng iter with | some y=>okE sc fs [] it y | none=>false)&&okSL sc fs b xb
  | _=>false)
def okSL(sc:Scope)(fs:List PySem.Str)(sts:List S)(xs:List Stmt):Bool:=match sts with
 | []=>xs.isEmpty
 | st::sts=>(match xs with
  | x::xs=>okS sc fs st x&&okSL sc fs sts xs
  | []=>false)
end
end Mine
end
section
open PySem PySem.W PyProof.Rows PySem.Calls
namespace Mine
theorem gl_of{sc:Scope}{id:PySem.Str}(h:gl sc id=true):sc.names.lookup id=some .globalImplicit∧(id == ("__debug__" :PySem.Str))=false:=by
 unfold gl at h;rw[Bool.and_eq_true,beq_iff_eq,Bool.not_eq_true']at h;exact h
theorem varName_of{id:PySem.Str}(h:varName id=true):(id == ("__debug__" :PySem.Str))=false∧(id == ("__classdict__" :PySem.Str))=false:=by
 unfold varName at h;rw[Bool.and_eq_true,Bool.not_eq_true',Bool.not_eq_true']at h;exact h
theorem compScope_of{scope sc:Scope}{ns:List PySem.Str}(h:compScopeB scope sc ns=true):CompScope scope sc ns:=by
 unfold compScopeB at h;simp only[Bool.and_eq_true,beq_iff_eq,List.all_eq_true,Bool.or_eq_true,bne_iff_ne,ne_eq,decide_eq_true_eq,Bool.not_eq_true']at h;obtain⟨⟨⟨⟨⟨⟨⟨h1,h2⟩,h3⟩,h4⟩,h5⟩,h6⟩,h7⟩,h8⟩:=h;refine⟨h1,h2,h3,fun x hx e=> ?_,fun x hx e=> ?_,h6,h7,fun e=>by rw[e]at h8;cases h8⟩
 ·rcases h4 x hx with q | q
  ·exact absurd e q
  ·exact q
 ·rcases h5 x hx with (q | q) | q
  ·exact absurd e q
  ·exact .inl q
  ·exact .inr q
section
variable {cx:Cx} {fa:Nat→Addr} {cl:Caller} {n:Nat}
theorem SI.of{sc:Scope}{fs cs:List PySem.Str}{rng:Bool}{e:E}{x y:Expr}(F:Facts cx fa gFns gMeths gInts gBis)(h:iterX sc rng x=some y)(he:SE cx cl n sc fs cs e y):SI cx cl n sc fs cs rng e x:=by
 cases rng with
 | false=>cases h;exact SI.plain he
 | true=>
  unfold iterX at h;simp only at h;split at h
  ·split at h
   ·rename_i q
    cases h;simp only[Bool.and_eq_true,beq_iff_eq]at q;obtain⟨⟨q1,q2⟩,q3⟩:=q;have g:=gl_of q1;exact SI.range F.ok g.1 g.2 (F.bis _ _ q2) he q3
   ·cases h
  ·cases h
theorem SB.of{sc:Scope}{fs cs:List PySem.Str}:∀ {es:List E} {xs:List Expr},(∀ (i:Nat) e x,es[i]? =some e→xs[i]? =some x→SE cx cl n sc fs cs e x∧(testable x=true→ST cx cl n sc fs cs e x))→es.length=xs.length→xs.all testable=true→SB cx cl n sc fs cs es xs
 | [],[],_,_,_=> .nil
 | e::es,x::xs,h,hl,ht=>by
  rw[List.all_cons,Bool.and_eq_true]at ht;have h0:=h 0 e x rfl rfl;exact .cons h0.1 (h0.2 ht.1) (SB.of (fun i e x a b=>h (i+1) e x a b) (by simpa using hl) ht.2)
 | [],_::_,_,h,_=>by simp at h
 | _::_,[],_,h,_=>by simp at h
def LOk(cx:Cx)(cl:Caller)(n:Nat)(sc:Scope)(fs cs:List PySem.Str)(es:List E)(xs:List Expr):Prop:=
 es.length=xs.length∧∀ (i:Nat) e x,es[i]? =some e→xs[i]? =some x→SE cx cl n sc fs cs e x∧(testable x=true→ST cx cl n sc fs cs e x)
theorem SL.of{sc:Scope}{fs cs:List PySem.Str}:∀ {es:List E} {xs:List Expr},LOk cx cl n sc fs cs es xs→xs.all notStar=true→SL cx cl n sc fs cs es xs
 | [],[],_,_=>SL.nil
 | e::es,x::xs,⟨hl,h⟩,ht=>by
  rw[List.all_cons,Bool.and_eq_true]at ht;exact SL.cons (h 0 e x rfl rfl).1 (SL.of ⟨by simpa using hl,fun i e x a b=>h (i+1) e x a b⟩ ht.2) ht.1
 | [],_::_,⟨h,_⟩,_=>by simp at h
 | _::_,[],⟨h,_⟩,_=>by simp at h
mutual
theorem okE_sound(F:Facts cx fa gFns gMeths gInts gBis)(hcl:CallOk cx fa cl n)(sc:Scope)(fs cs:List PySem.Str):∀ (e:E) (x:Expr),okE sc fs cs e x=true→SE cx cl n sc fs cs e x∧(testable x=true→ST cx cl n sc fs cs e x)
 | .const v,x,h=>by
  cases x<;>first | (simp[okE]at h;done) | skip
  ·rename_i k j p
   simp only[okE]at h;have s:SE cx cl n sc fs cs (.const v) (.Constant k j p):=SE.const h;exact⟨s,fun _=>ST.of s fun _ _=>rfl⟩
  ·rename_i id p
   cases v<;>first | (simp[okE]at h;done) | skip
   simp only[okE,Bool.and_eq_true,beq_iff_eq]at h;have g:=gl_of h.1;obtain⟨t,ht⟩:=F.nums _ _ h.2;have s:SE cx cl n sc fs cs (.const (.int _)) (.Name id p):=SE.gInt F.ok g.1 ht g.2;exact⟨s,fun _=>ST.of s fun _ _=>rfl⟩
 | .loc i,x,h=>by
  cases x<;>first | (simp[okE]at h;done) | skip
  rename_i id p;simp only[okE,Bool.and_eq_true,beq_iff_eq]at h;have g:=varName_of h.2;have s:SE cx cl n sc fs cs (.loc i) (.Name id p):=SE.var (fr:=false) (by simpa using h.1) g.1 g.2 (fun z=>by cases z)
  exact⟨s,fun _=>ST.of s fun _ _=>rfl⟩
 | .free i,x,h=>by
  cases x<;>first | (simp[okE]at h;done) | skip
  rename_i id p;simp only[okE,Bool.and_eq_true,beq_iff_eq,Bool.or_eq_true]at h;have g:=varName_of h.1.2;have s:SE cx cl n sc fs cs (.free i) (.Name id p):=SE.var (fr:=true) (by simpa using h.1.1) g.1 g.2 (fun _=>h.2)
  exact⟨s,fun _=>ST.of s fun _ _=>rfl⟩
 | .bin o a b,x,h=>by
  cases x<;>first | (simp[okE]at h;done) | skip
  rename_i xa op xb p;simp only[okE,Bool.and_eq_true,beq_iff_eq]at h;obtain⟨⟨rfl,h1⟩,h2⟩:=h;have s:SE cx cl n sc fs cs (.bin o a b) (.BinOp xa (opr o) xb p):=SE.bin (okE_sound F hcl sc fs cs a xa h1).1 (okE_sound F hcl sc fs cs b xb h2).1;exact⟨s,fun _=>ST.of s fun _ _=>rfl⟩
 | .neg a,x,h=>by
  cases x<;>first | (simp[okE]at h;done) | skip
  rename_i op xa p;cases op<;>first | (simp[okE]at h;done) | skip
  simp only[okE]at h;have s:SE cx cl n sc fs cs (.neg a) (.UnaryOp .USub xa p):=SE.neg (okE_sound F hcl sc fs cs a xa h).1;exact⟨s,fun _=>ST.of s fun _ _=>rfl⟩
 | .not a,x,h=>by
  cases x<;>first | (simp[okE]at h;done) | skip
  rename_i op xa p;cases op<;>first | (simp[okE]at h;done) | skip
  simp only[okE,Bool.and_eq_true]at h;have k:=okE_sound F hcl sc fs cs a xa h.2;exact⟨SE.not k.1,fun _=>ST.not (k.2 h.1)⟩
 | .bop k es,x,h=>by
  cases x<;>first | (simp[okE]at h;done) | skip
  rename_i op xs p;simp only[okE,Bool.and_eq_true]at h;have l:=okL_sound F hcl sc fs cs es xs h.2;have sb:=SB.of l.2 l.1 h.1.2;exact⟨SE.bop h.1.1 sb,fun _=>ST.bop h.1.1 sb⟩
 | .cmp o a b,x,h=>by
  cases x<;>first | (simp[okE]at h;done) | skip
  rename_i xa ops rs p;match ops,rs,h with
  | [op],[xb],h=>
   simp only[okE,Bool.and_eq_true,beq_iff_eq,Bool.not_eq_true']at h;obtain⟨⟨⟨rfl,h0⟩,h1⟩,h2⟩:=h;have k1:=(okE_sound F hcl sc fs cs a xa h1).1;have k2:=(okE_sound F hcl sc fs cs b xb h2).1;exact⟨SE.cmp k1 k2 h0,fun _=>ST.cmp k1 k2 h0⟩
  | [],_,h=>simp[okE]at h
  | _::_::_,_,h=>simp[okE]at h
  | [_],[],h=>simp[okE]at h
  | [_],_::_::_,h=>simp[okE]at h
 | .ite t a b,x,h=>by
  cases x<;>first | (simp[okE]at h;done) | skip
  rename_i xt xa xb p;simp only[okE,Bool.and_eq_true]at h;exact⟨SE.ite ((okE_sound F hcl sc fs cs t xt h.1.1.2).2 h.1.1.1) (okE_sound F hcl sc fs cs a xa h.1.2).1 (okE_sound F hcl sc fs cs b xb h.2).1,fun z=>by cases z⟩
 | .tup es,x,h=>by
  cases x<;>first | (simp[okE]at h;done) | skip
  rename_i xs k p;simp only[okE,Bool.and_eq_true,decide_eq_true_eq]at h;have s:SE cx cl n sc fs cs (.tup es) (.Tuple xs k p):=SE.tup (SL.of (okL_sound F hcl sc fs cs es xs h.2) h.1.1) h.1.2;exact⟨s,fun _=>ST.of s fun _ _=>rfl⟩
 | .list es,x,h=>by
  cases x<;>first | (simp[okE]at h;done) | skip
  rename_i xs p;simp only[okE,Bool.and_eq_true,decide_eq_true_eq]at h;have s:SE cx cl n sc fs cs (.list es) (.List xs p):=SE.list (SL.of (okL_sound F hcl sc fs cs es xs h.2) h.1.1) h.1.2;exact⟨s,fun _=>ST.of s fun _ _=>rfl⟩
 | .dict kvs,x,h=>by
  cases x<;>first | (simp[okE]at h;done) | skip
  rename_i ks xs p;simp only[okE,Bool.and_eq_true,decide_eq_true_eq,beq_iff_eq]at h;obtain⟨⟨⟨⟨h1,h2⟩,h3⟩,h4⟩,h5⟩:=h;have sp:=okP_sound F hcl sc fs cs kvs ks xs h5;by_cases hk:ks=[]
  ·subst hk
   have hx:xs=[]:=List.length_eq_zero_iff.mp h2.symm;subst hx;have he:kvs=[]:=by
    match kvs,h5 with
    | [],_=>rfl
    | [_],h5=>simp[okP]at h5
    | _::_::_,h5=>simp[okP]at h5
   subst he;exact⟨SE.dict0,fun _=>ST.of SE.dict0 fun _ _=>rfl⟩
  ·have s:SE cx cl n sc fs cs (.dict kvs) (.Dict ks xs p):=SE.dict sp h1 h2 hk h3 h4
   exact⟨s,fun _=>ST.of s fun _ _=>rfl⟩
 | .attr o nm,x,h=>by
  cases x<;>first | (simp[okE]at h;done) | skip
  rename_i xo name p;simp only[okE,Bool.and_eq_true]at h;have s:SE cx cl n sc fs cs (.attr o nm) (.Attribute xo name p):=SE.attr F.ok F.cls (okE_sound F hcl sc fs cs o xo h.2).1 h.1.1 h.1.2;exact⟨s,fun _=>ST.of s fun _ _=>rfl⟩
 | .sub o i,x,h=>by
  cases x<;>first | (simp[okE]at h;done) | skip
  rename_i xo xi p;simp only[okE,Bool.and_eq_true]at h;have s:SE cx cl n sc fs cs (.sub o i) (.Subscript xo xi p):=SE.sub (okE_sound F hcl sc fs cs o xo h.1.2).1 (okE_sound F hcl sc fs cs i xi h.2).1 h.1.1;exact⟨s,fun _=>ST.of s fun _ _=>rfl⟩
 | .slice o k,x,h=>by
  unfold okE at h;split at h
  ·rename_i y p k2 j q r pos
   simp only[Bool.and_eq_true,beq_iff_eq]at h;obtain⟨rfl,h1⟩:=h;have s:=SE.slice (p:=r) (pos:=pos) (kp:=q) (kk:=j) (k:=k) (okE_sound F hcl sc fs cs o (.Name y p) h1).1;exact⟨s,fun _=>ST.of s fun _ _=>rfl⟩
  ·cases h
 | .call f es,x,h=>by
  unfold okE at h;split at h
  ·rename_i id p xs pos
   simp only[Bool.and_eq_true,beq_iff_eq]at h;obtain⟨⟨⟨h1,h2⟩,h3⟩,h4⟩:=h;have g:=gl_of h1;have s:=SE.call (fa:=fa) F.ok hcl (p:=p) (pos:=pos) g.1 g.2 (F.fns _ _ h2) (SL.of (okL_sound F hcl sc fs cs es _ h4) h3) h3;exact⟨s,fun _=>ST.of s fun _ _=>rfl⟩
  ·cases h
 | .new es,x,h=>by
  unfold okE at h;split at h
  ·rename_i id p xs pos
   simp only[Bool.and_eq_true,beq_iff_eq]at h;obtain⟨⟨⟨h1,h2⟩,h3⟩,h4⟩:=h;subst h2;have g:=gl_of h1;have s:=SE.new (fa:=fa) F.ok hcl (p:=p) (pos:=pos) g.1 g.2 F.net F.makes F.init (SL.of (okL_sound F hcl sc fs cs es _ h4) h3) h3;exact⟨s,fun _=>ST.of s fun _ _=>rfl⟩
  ·cases h
 | .meth o f es,x,h=>by
  unfold okE at h;split at h
  ·simp only[Bool.and_eq_true,beq_iff_eq,decide_eq_true_eq]at h
   obtain⟨⟨⟨⟨⟨⟨h1,h2⟩,h3⟩,h4⟩,h5⟩,h6⟩,h7⟩:=h;have s:=SE.meth (fa:=fa) F.ok F.cls hcl h1 h2 h3 (by rw[beq_iff_eq];exact h4) (F.meths _ _ h5) (okE_sound F hcl sc fs cs o _ h6).1 (SL.of (okL_sound F hcl sc fs cs es _ h7) h2)
   exact⟨s,fun _=>ST.of s fun _ _=>rfl⟩
  ·cases h
 | .bi b es,x,h=>by
  unfold okE at h;split at h
  ·rename_i id p xs pos
   rw[Bool.and_eq_true]at h;obtain⟨h1,h⟩:=h;have g:=gl_of h1;split at h
   ·split at h
    ·rename_i id2 p2 ys pos2
     simp only[Bool.and_eq_true,beq_iff_eq,decide_eq_true_eq]at h;obtain⟨⟨⟨⟨⟨h2,h3⟩,h4⟩,h5⟩,h6⟩,h7⟩:=h;have l:=okL_sound F hcl sc fs cs es ys h7;match es,ys,l,h5,h6 with
     | [a],[xa],l,h5,h6=>
      have g2:=gl_of h3;have s:=SE.lenset F.ok (p:=p) (p2:=p2) (pos:=pos) (pos2:=pos2) g.1 g.2 (F.bis _ _ h2) g2.1 g2.2 (F.bis _ _ h4) (l.2 0 a xa rfl rfl).1 (by simpa using h5)
      exact⟨s,fun _=>ST.of s fun _ _=>rfl⟩
     | [],[xa],l,_,_=>exact absurd l.1 (by simp)
     | _::_::_,[xa],l,_,_=>exact absurd l.1 (by simp)
     | _,[],_,_,h6=>simp at h6
     | _,_::_::_,_,_,h6=>simp at h6
    ·cases h
   ·split at h
    ·rename_i v hv
     simp only[Bool.and_eq_true,beq_iff_eq]at h;obtain⟨⟨h2,h3⟩,h4⟩:=h;have s:=SE.bi F.ok (p:=p) (pos:=pos) hv g.1 g.2 (F.bis _ _ h2) (SL.of (okL_sound F hcl sc fs cs es xs h4) h3) h3;exact⟨s,fun _=>ST.of s fun _ _=>rfl⟩
    ·cases h
  ·cases h
 | .bm b o es,x,h=>by
  unfold okE at h;split at h
  ·simp only[Bool.and_eq_true,beq_iff_eq,decide_eq_true_eq]at h
   obtain⟨⟨⟨⟨⟨⟨h1,h2⟩,h3⟩,h4⟩,h5⟩,h6⟩,h7⟩:=h;have s:=SE.bm h5 h1 h2 h3 (by rw[beq_iff_eq];exact h4) (okE_sound F hcl sc fs cs o _ h6).1 (SL.of (okL_sound F hcl sc fs cs es _ h7) h2)
   exact⟨s,fun _=>ST.of s fun _ _=>rfl⟩
  ·cases h
 | .comp k t rng it g,x,h=>by
  unfold okE at h;split at h
  ·rename_i elt target iter ifs asy rest scope pos
   simp only[Bool.and_eq_true,beq_iff_eq]at h;obtain⟨⟨⟨⟨⟨⟨h1,h2⟩,h3⟩,h4⟩,h5⟩,h6⟩,h7⟩:=h;subst h1;split at h6
   ·rename_i y hy
    have s:SE cx cl n sc fs cs (.comp k t rng it g) (.ListComp elt (⟨target,iter,ifs,0⟩::rest) scope pos):=
     SE.comp (compScope_of h2) h3 h4 h5 (SI.of F hy (okE_sound F hcl sc fs cs it y h6).1) (okG_sound F hcl (relabelS scope sc) fs _ elt (⟨target,iter,ifs,0⟩::rest) scope pos g 1 rest ifs (by simp) h7)
    exact⟨s,fun _=>ST.of s fun _ _=>rfl⟩
   ·cases h6
  ·cases h
theorem okL_sound(F:Facts cx fa gFns gMeths gInts gBis)(hcl:CallOk cx fa cl n)(sc:Scope)(fs cs:List PySem.Str):∀ (es:List E) (xs:List Expr),okL sc fs cs es xs=true→LOk cx cl n sc fs cs es xs
 | [],xs,h=>by
  simp only[okL,List.isEmpty_iff]at h;subst h;exact⟨rfl,fun i e x a b=>by simp at a⟩
 | e::es,[],h=>by simp[okL]at h
 | e::es,x::xs,h=>by
  simp only[okL,Bool.and_eq_true]at h;have k:=okE_sound F hcl sc fs cs e x h.1;have l:=okL_sound F hcl sc fs cs es xs h.2;refine⟨by simp[l.1],fun i e' x' a b=> ?_⟩
  cases i with
  | zero=>
   simp only[List.getElem?_cons_zero,Option.some.injEq]at a b;subst a b;exact k
  | succ i=>
   simp only[List.getElem?_cons_succ]at a b;exact l.2 i e' x' a b
theorem okP_sound(F:Facts cx fa gFns gMeths gInts gBis)(hcl:CallOk cx fa cl n)(sc:Scope)(fs cs:List PySem.Str):∀ (es:List E) (ks:List (Option Expr)) (xs:List Expr),okP sc fs cs es ks xs=true→SP cx cl n sc fs cs es ks xs
 | [],ks,xs,h=>by
  simp only[okP,Bool.and_eq_true,List.isEmpty_iff]at h;obtain⟨rfl,rfl⟩:=h;exact SP.nil
 | [_],_,_,h=>by simp[okP]at h
 | k::e::es,[],_,h=>by simp[okP]at h
 | k::e::es,none::_,_,h=>by simp[okP]at h
 | k::e::es,some xk::ks,[],h=>by simp[okP]at h
 | k::e::es,some xk::ks,x::xs,h=>by
  simp only[okP,Bool.and_eq_true]at h;exact SP.cons (okE_sound F hcl sc fs cs k xk h.1.1).1 (okE_sound F hcl sc fs cs e x h.1.2).1 (okP_sound F hcl sc fs cs es ks xs h.2)
theorem okG_sound(F:Facts cx fa gFns gMeths gInts gBis)(hcl:CallOk cx fa cl n)(sc:Scope)(fs cs:List PySem.Str)(elt:Expr)(gens:List Comprehension)(scope:Scope)(pos:Pos):∀ (g:G) (d:Nat) (rest:List Comprehension) (ifs:List Expr),rest=gens.drop d→okG sc fs cs elt rest g ifs=true→
  SG cx cl n sc fs cs (.ListComp elt gens scope pos) elt gens d g ifs
 | .elt e,d,rest,ifs,hr,h=>by
  simp only[okG,Bool.and_eq_true,List.isEmpty_iff]at h;obtain⟨⟨h1,rfl⟩,h3⟩:=h;refine SG.elt (okE_sound F hcl sc fs cs e elt h3).1 ?_
  rw[List.getElem?_eq_none];rw[h1]at hr;exact List.drop_eq_nil_iff.mp hr.symm
 | .if_ e g,d,rest,[],hr,h=>by simp[okG]at h
 | .if_ e g,d,rest,i::ifs,hr,h=>by
  simp only[okG,Bool.and_eq_true]at h;exact SG.if_ ((okE_sound F hcl sc fs cs e i h.1.2).2 h.1.1) (okG_sound F hcl sc fs cs elt gens scope pos g d rest ifs hr h.2)
 | .for_ t rng it g,d,[],ifs,hr,h=>by simp[okG]at h
 | .for_ t rng it g,d,⟨target,iter,ifs',asy⟩::rest,ifs,hr,h=>by
  simp only[okG,Bool.and_eq_true,List.isEmpty_iff,beq_iff_eq]at h;obtain⟨rfl,⟨⟨⟨h1,h2⟩,h3⟩,h4⟩,h5⟩:=h;subst h1;have hd:gens[d]? =some ⟨target,iter,ifs',0⟩:=by
   rw[← List.head?_drop,← hr];rfl
  have hr2:rest=gens.drop (d+1):=by
   rw[← List.tail_drop,← hr];rfl
  split at h4
  ·rename_i y hy
   exact SG.for_ hd h2 h3 (SI.of F hy (okE_sound F hcl sc fs cs it y h4).1) (okG_sound F hcl sc fs cs elt gens scope pos g (d+1) rest ifs' hr2 h5)
  ·cases h4
end
end
end Mine
end
section
open PySem PySem.W PyProof.Rows PySem.Calls
namespace Mine
section
variable {cx:Cx} {fa:Nat→Addr} {cl:Caller} {n W:Nat}
theorem swap_eq{sc:Scope}{x t:Expr}{line:Nat}(hx:notComp x=true∨∃ a b c d,x= .ListComp a b c d)(env:Env)(hs:env.scope=sc)(hn:∃ y p,t= .Name y p∨∃ ts k,t= .Tuple ts k p):swapsWith x (some t) line env=pure (swapB sc x t line):=by
 subst hs;rcases hx with hx | ⟨a,b,c,d,rfl⟩
 ·rw[swaps_plain hx]
  cases x<;>first | rfl | cases hx
 ·obtain⟨y,p,rfl | ⟨ts,k,rfl⟩⟩:=hn
  ·rfl
  ·rfl
mutual
theorem okS_sound(F:Facts cx fa gFns gMeths gInts gBis)(hcl:CallOk cx fa cl n)(sc:Scope)(fs:List PySem.Str):∀ (st:S) (x:Stmt),okS sc fs st x=true→SX cx cl n W sc fs st x
 | .fail,x,_=>SX.fail
 | .cont,x,h=>by
  cases x<;>first | (simp[okS]at h;done) | exact SX.cont
 | .pass,x,h=>by
  cases x<;>first | (simp[okS]at h;done) | exact SX.pass
 | .ret e,x,h=>by
  unfold okS at h;split at h
  ·exact SX.ret (okE_sound F hcl sc fs [] e _ h).1
  ·cases h
 | .expr e,x,h=>by
  unfold okS at h;split at h
  ·rw[Bool.and_eq_true]at h
   exact SX.expr (okE_sound F hcl sc fs [] e _ h.2).1 h.1
  ·cases h
 | .assign t e,x,h=>by
  unfold okS at h;split at h
  ·rename_i xt y pos
   simp only[Bool.and_eq_true]at h;obtain⟨⟨⟨⟨h1,h2⟩,h3⟩,h4⟩,h5⟩:=h;have k:=(okE_sound F hcl sc fs [] e y h4).1;have hy:notComp y=true∨∃ a b c d,y= .ListComp a b c d:=by
    rw[Bool.or_eq_true]at h3;rcases h3 with q | q
    ·exact .inl q
    ·cases y<;>first | (cases q;done) | exact .inr ⟨_,_,_,_,rfl⟩
   have hxt:∃ y p,xt= .Name y p∨∃ ts k,xt= .Tuple ts k p:=by
    cases xt<;>first | (cases h2;done) | exact⟨_,_,.inl rfl⟩ | exact⟨PySem.Str.ofString "",_,.inr ⟨_,_,rfl⟩⟩
   cases hsw:swapB sc y xt pos.line with
   | false=>exact SX.asg k h1 (fun env hs=>by rw[swap_eq hy env hs hxt,hsw]) h2
   | true=>
    rw[hsw]at h5;simp only[Bool.not_true,Bool.false_or]at h5;split at h5
    ·rename_i i yn p
     rcases hy with q | ⟨elt,gens,scope,cpos,rfl⟩
     ·exfalso
      unfold swapB at hsw;cases y<;>first | (cases hsw;done) | cases q
     ·cases e with
      | comp k t rng it g=>
       unfold okE at h4;split at h4
       ·rename_i elt' target iter ifs asy rest scope' pos' heq
        cases heq;simp only[Bool.and_eq_true,beq_iff_eq]at h4;obtain⟨⟨⟨⟨⟨⟨a1,a2⟩,a3⟩,a4⟩,a5⟩,a6⟩,a7⟩:=h4;subst a1;split at a6
        ·rename_i z hz
         exact SX.used (compScope_of a2) a3 a4 a5 (SI.of F hz (okE_sound F hcl sc fs [] it z a6).1) (okG_sound F hcl (relabelS scope sc) fs _ elt (⟨target,iter,ifs,0⟩::rest) scope cpos g 1 rest ifs (by simp) a7) h1
          (fun env hs=>by rw[swap_eq (.inr ⟨_,_,_,_,rfl⟩) env hs ⟨_,_,.inl rfl⟩,hsw])
        ·cases a6
       ·cases h4
      | const v=>cases v<;>simp[okE]at h4
      | _=>simp[okE]at h4
    ·cases h5
  ·cases h
 | .setAttr o nm e,x,h=>by
  unfold okS at h;split at h
  ·simp only[Bool.and_eq_true]at h
   exact SX.stAttr F.ok F.cls (okE_sound F hcl sc fs [] e _ h.1.2).1 (okE_sound F hcl sc fs [] o _ h.2).1 h.1.1.1 h.1.1.2
  ·cases h
 | .setSub o i e,x,h=>by
  unfold okS at h;split at h
  ·simp only[Bool.and_eq_true]at h
   exact SX.stSub (okE_sound F hcl sc fs [] e _ h.1.1.2).1 (okE_sound F hcl sc fs [] o _ h.1.2).1 (okE_sound F hcl sc fs [] i _ h.2).1 h.1.1.1
  ·cases h
 | .augLoc i op e,x,h=>by
  unfold okS at h;split at h
  ·simp only[Bool.and_eq_true,beq_iff_eq]at h
   obtain⟨⟨⟨⟨h1,h2⟩,rfl⟩,h4⟩,h5⟩:=h;exact SX.augLoc (okE_sound F hcl sc fs [] e _ h5).1 h1 (varName_of h2).2 h4
  ·cases h
 | .augAttr o nm op e,x,h=>by
  unfold okS at h;split at h
  ·simp only[Bool.and_eq_true,beq_iff_eq]at h
   obtain⟨⟨⟨⟨h1,rfl⟩,h3⟩,h4⟩,h5⟩:=h;exact SX.augAttr F.ok F.cls (okE_sound F hcl sc fs [] o _ h4).1 (okE_sound F hcl sc fs [] e _ h5).1 h1 h3
  ·cases h
 | .augSub o i op e,x,h=>by
  unfold okS at h;split at h
  ·simp only[Bool.and_eq_true,beq_iff_eq]at h
   obtain⟨⟨⟨⟨⟨h1,rfl⟩,h3⟩,h4⟩,h5⟩,h6⟩:=h;exact SX.augSub (okE_sound F hcl sc fs [] o _ h4).1 (okE_sound F hcl sc fs [] i _ h5).1 (okE_sound F hcl sc fs [] e _ h6).1 h1 h3
  ·cases h
 | .ite t b o,x,h=>by
  unfold okS at h;split at h
  ·simp only[Bool.and_eq_true]at h
   exact SX.ite ((okE_sound F hcl sc fs [] t _ h.1.1.2).2 h.1.1.1) (okSL_sound F hcl sc fs b _ h.1.2) (okSL_sound F hcl sc fs o _ h.2)
  ·cases h
 | .while_ t b,x,h=>by
  unfold okS at h;split at h
  ·simp only[Bool.and_eq_true]at h
   exact SX.while_ ((okE_sound F hcl sc fs [] t _ h.1.2).2 h.1.1) (okSL_sound F hcl sc fs b _ h.2)
  ·cases h
 | .for_ t rng it b,x,h=>by
  unfold okS at h;split at h
  ·simp only[Bool.and_eq_true]at h
   obtain⟨⟨⟨h1,h2⟩,h3⟩,h4⟩:=h;split at h3
   ·rename_i y hy
    exact SX.for_ (SI.of F hy (okE_sound F hcl sc fs [] it y h3).1) h1 h2 (okSL_sound F hcl sc fs b _ h4)
   ·cases h3
  ·cases h
theorem okSL_sound(F:Facts cx fa gFns gMeths gInts gBis)(hcl:CallOk cx fa cl n)(sc:Scope)(fs:List PySem.Str):∀ (sts:List S) (xs:List Stmt),okSL sc fs sts xs=true→SXL cx cl n W sc fs sts xs
 | [],xs,h=>by
  simp only[okSL,List.isEmpty_iff]at h;subst h;exact SXL.nil
 | st::sts,[],h=>by simp[okSL]at h
 | st::sts,x::xs,h=>by
  simp only[okSL,Bool.and_eq_true]at h;exact SXL.cons (okS_sound F hcl sc fs st x h.1) (okSL_sound F hcl sc fs sts xs h.2)
end
def okFn(K:Frag)(a:Addr)(fn:Fn)(fs:List PySem.Str):Bool:=match K.lookup a with
 | some ⟨_,_,.func ⟨_,qual,⟨[],args,none,[],[],none,_⟩,.stmts body,scope,gl,[],dV,_,_,_,_,cdv,_,bi⟩,_⟩=>
  gl == mainGlobals&&bi == builtinsNs&&codeIn K cdv qual&& !scope.isCoroutine&& !scope.isGenerator&&scope.kind == .function&&args.length == fn.np&&decide (fn.np≤fn.nl)&&decide (fs.take fn.np=args.map (·.arg))&&fs.length == fn.nl&&decide fs.Nodup
   &&fs.all (fun x=>scope.names.lookup x == some .local || scope.names.lookup x == some .cell)&&decide (scope.names.map (·.1)).Nodup&&scope.names.all (fun x=>x.2 != .free)&&okSL scope fs fn.body body
   &&(match dV with
    | .none=>true
    | .ref t=>(match K.lookup t with
     | some ⟨_,_,.seq _ _,_⟩=>true
     | _=>false)
    | _=>false)
 | _=>false
theorem okFn_sound(F:Facts cx fa gFns gMeths gInts gBis){f:Nat}{fn:Fn}{fs:List PySem.Str}(h:okFn cx.K (fa f) fn fs=true):FnAll cx fa f fn:=by
 unfold okFn at h;split at h
 ·rename_i oc od name qual args dfl body scope gg dV kV doc pm an cdv ct bi osl hk
  simp only[Bool.and_eq_true,beq_iff_eq,decide_eq_true_eq,List.all_eq_true,Bool.or_eq_true,Bool.not_eq_true',bne_iff_ne,ne_eq]at h;obtain⟨⟨⟨⟨⟨⟨⟨⟨⟨⟨⟨⟨⟨⟨⟨rfl,rfl⟩,h3⟩,h4⟩,h5⟩,h6⟩,h7⟩,h8⟩,h9⟩,h10⟩,h11⟩,h12⟩,h13⟩,h14⟩,h15⟩,h16⟩:=h;refine⟨name,qual,args,dfl,body,scope,dV,kV,doc,pm,an,cdv,ct,oc,od,osl,fs,?_⟩
  refine { look:=hk,code:=h3,seq:= ?_,co:=h4,gen:=h5,kind:=h6,np:=h7,npl:=h8,take:=h9,len:=h10,nodup:=h11,kinds:=h12,nd:=h13,nofree:=fun x e=>h14 _ (mem_of_lookup e) rfl,body:=fun n W cl hcl=>okSL_sound F hcl _ _ _ _ h15 }
  split at h16
  ·exact⟨_,fun S=>rfl⟩
  ·rename_i t
   split at h16
   ·rename_i xs q o hq
    refine⟨some xs,fun S=> ?_⟩
    have e:seqItems? (.ref t)=Sem.load t none (fun o=>match o.data with | .seq xs _=>pure (some xs) | _=>pure none):=rfl
    rw[e];simp only[peek,hq];rfl
   ·cases h16
  ·cases h16
 ·cases h
end
end Mine
end
section
open PySem PySem.W PyProof.Rows
set_option maxHeartbeats 8000000
open_top hd for PySem.Challenge.rw_nn0324_01
end
section
open PySem PySem.W PyProof.Rows PySem.Calls
namespace Mine
def netC:Addr:=134
def fa:Nat→Addr
 | 0=>75
 | 1=>61
 | 2=>82
 | 3=>87
 | 4=>94
 | 5=>101
 | 6=>109
 | 7=>117
 | 8=>124
 | 9=>145
 | 10=>152
 | 11=>159
 | 12=>166
 | 13=>173
 | 14=>180
 | 15=>187
 | 16=>194
 | 17=>201
 | 18=>208
 | 19=>215
 | 20=>222
 | 21=>229
 | 22=>234
 | 23=>241
 | 24=>248
 | 25=>255
 | 26=>262
 | 27=>269
 | 28=>276
 | 29=>283
 | 30=>290
 | 31=>295
 | 32=>300
 | 33=>307
 | 34=>314
 | 35=>321
 | 36=>326
 | 37=>333
 | 38=>340
 | 39=>347
 | 40=>354
 | 41=>361
 | 42=>368
 | 43=>373
 | 44=>378
 | 45=>383
 | 46=>390
 | 47=>395
 | 48=>400
 | 49=>405
 | 50=>412
 | 51=>417
 | 52=>422
 | _=>0
theorem fnOk_aa(p:Params):okFn (hd.heap_39 p) (fa 0) f_Netlist_init (names 0)=true:=by kernel_rfl
theorem fnOk_ab(p:Params):okFn (hd.heap_39 p) (fa 1) f_is_state_kind (names 1)=true:=by kernel_rfl
theorem fnOk_ac(p:Params):okFn (hd.heap_39 p) (fa 2) f_Netlist_new_net (names 2)=true:=by kernel_rfl
theorem fnOk_ad(p:Params):okFn (hd.heap_39 p) (fa 3) f_Netlist_new_nets (names 3)=true:=by kernel_rfl
theorem fnOk_ae(p:Params):okFn (hd.heap_39 p) (fa 4) f_Netlist_add_input (names 4)=true:=by kernel_rfl
theorem fnOk_af(p:Params):okFn (hd.heap_39 p) (fa 5) f_Netlist_add_output (names 5)=true:=by kernel_rfl
theorem fnOk_ag(p:Params):okFn (hd.heap_39 p) (fa 6) f_Netlist_add_cell (names 6)=true:=by kernel_rfl
theorem fnOk_ah(p:Params):okFn (hd.heap_39 p) (fa 7) f_Netlist_drive (names 7)=true:=by kernel_rfl
theorem fnOk_ai(p:Params):okFn (hd.heap_39 p) (fa 8) f_Netlist_sources (names 8)=true:=by kernel_rfl
theorem fnOk_aj(p:Params):okFn (hd.heap_39 p) (fa 9) f_state_cells (names 9)=true:=by kernel_rfl
theorem fnOk_ak(p:Params):okFn (hd.heap_39 p) (fa 10) f_drivers (names 10)=true:=by kernel_rfl
theorem fnOk_al(p:Params):okFn (hd.heap_39 p) (fa 11) f_ordered_cells (names 11)=true:=by kernel_rfl
theorem fnOk_am(p:Params):okFn (hd.heap_39 p) (fa 12) f_comb_order (names 12)=true:=by kernel_rfl
theorem fnOk_an(p:Params):okFn (hd.heap_39 p) (fa 13) f_row_number (names 13)=true:=by kernel_rfl
theorem fnOk_ao(p:Params):okFn (hd.heap_39 p) (fa 14) f_full_table (names 14)=true:=by kernel_rfl
theorem fnOk_ap(p:Params):okFn (hd.heap_39 p) (fa 15) f_var_table (names 15)=true:=by kernel_rfl
theorem fnOk_aq(p:Params):okFn (hd.heap_39 p) (fa 16) f_cofactor (names 16)=true:=by kernel_rfl
theorem fnOk_ar(p:Params):okFn (hd.heap_39 p) (fa 17) f_depends (names 17)=true:=by kernel_rfl
theorem fnOk_as(p:Params):okFn (hd.heap_39 p) (fa 18) f_support (names 18)=true:=by kernel_rfl
theorem fnOk_at(p:Params):okFn (hd.heap_39 p) (fa 19) f_spread (names 19)=true:=by kernel_rfl
theorem fnOk_au(p:Params):okFn (hd.heap_39 p) (fa 20) f_shrink (names 20)=true:=by kernel_rfl
theorem fnOk_av(p:Params):okFn (hd.heap_39 p) (fa 21) f_final_net (names 21)=true:=by kernel_rfl
theorem fnOk_aw(p:Params):okFn (hd.heap_39 p) (fa 22) f_rebuilt_cells (names 22)=true:=by kernel_rfl
theorem fnOk_ax(p:Params):okFn (hd.heap_39 p) (fa 23) f_rebuilt (names 23)=true:=by kernel_rfl
theorem fnOk_ay(p:Params):okFn (hd.heap_39 p) (fa 24) f_and_form (names 24)=true:=by kernel_rfl
theorem fnOk_az(p:Params):okFn (hd.heap_39 p) (fa 25) f_or_form (names 25)=true:=by kernel_rfl
theorem fnOk_ba(p:Params):okFn (hd.heap_39 p) (fa 26) f_xor_form (names 26)=true:=by kernel_rfl
theorem fnOk_bb(p:Params):okFn (hd.heap_39 p) (fa 27) f_turned_form (names 27)=true:=by kernel_rfl
theorem fnOk_bc(p:Params):okFn (hd.heap_39 p) (fa 28) f_gate_form (names 28)=true:=by kernel_rfl
theorem fnOk_bd(p:Params):okFn (hd.heap_39 p) (fa 29) f_select_form (names 29)=true:=by kernel_rfl
theorem fnOk_be(p:Params):okFn (hd.heap_39 p) (fa 30) f_table_bit (names 30)=true:=by kernel_rfl
theorem fnOk_bf(p:Params):okFn (hd.heap_39 p) (fa 31) f_table_over (names 31)=true:=by kernel_rfl
theorem fnOk_bg(p:Params):okFn (hd.heap_39 p) (fa 32) f_table_form (names 32)=true:=by kernel_rfl
theorem fnOk_bh(p:Params):okFn (hd.heap_39 p) (fa 33) f_are_opposite (names 33)=true:=by kernel_rfl
theorem fnOk_bi(p:Params):okFn (hd.heap_39 p) (fa 34) f_library_form (names 34)=true:=by kernel_rfl
theorem fnOk_bj(p:Params):okFn (hd.heap_39 p) (fa 35) f_simple_form (names 35)=true:=by kernel_rfl
theorem fnOk_bk(p:Params):okFn (hd.heap_39 p) (fa 36) f_fold_constants (names 36)=true:=by kernel_rfl
theorem fnOk_bl(p:Params):okFn (hd.heap_39 p) (fa 37) f_drop_buffers (names 37)=true:=by kernel_rfl
theorem fnOk_bm(p:Params):okFn (hd.heap_39 p) (fa 38) f_used_cells (names 38)=true:=by kernel_rfl
theorem fnOk_bn(p:Params):okFn (hd.heap_39 p) (fa 39) f_drop_unused (names 39)=true:=by kernel_rfl
theorem fnOk_bo(p:Params):okFn (hd.heap_39 p) (fa 40) f_law_pick (names 40)=true:=by kernel_rfl
theorem fnOk_bp(p:Params):okFn (hd.heap_39 p) (fa 41) f_law_table (names 41)=true:=by kernel_rfl
theorem fnOk_bq(p:Params):okFn (hd.heap_39 p) (fa 42) f_law_near (names 42)=true:=by kernel_rfl
theorem fnOk_br(p:Params):okFn (hd.heap_39 p) (fa 43) f_law_netlist (names 43)=true:=by kernel_rfl
theorem fnOk_bs(p:Params):okFn (hd.heap_39 p) (fa 44) f_law_states (names 44)=true:=by kernel_rfl
theorem fnOk_bt(p:Params):okFn (hd.heap_39 p) (fa 45) f_law_patterns (names 45)=true:=by kernel_rfl
theorem fnOk_bu(p:Params):okFn (hd.heap_39 p) (fa 46) f_law_word (names 46)=true:=by kernel_rfl
theorem fnOk_bv(p:Params):okFn (hd.heap_39 p) (fa 47) f_law_words (names 47)=true:=by kernel_rfl
theorem fnOk_bw(p:Params):okFn (hd.heap_39 p) (fa 48) f_law_sinks (names 48)=true:=by kernel_rfl
theorem fnOk_bx(p:Params):okFn (hd.heap_39 p) (fa 49) f_law_kept (names 49)=true:=by kernel_rfl
theorem fnOk_by(p:Params):okFn (hd.heap_39 p) (fa 50) f_law_foldable (names 50)=true:=by kernel_rfl
theorem fnOk_bz(p:Params):okFn (hd.heap_39 p) (fa 51) f_law_used (names 51)=true:=by kernel_rfl
theorem fnOk_ca(p:Params):okFn (hd.heap_39 p) (fa 52) f_law (names 52)=true:=by kernel_rfl
theorem fn_all(p:Params)(f:Nat)(fn:Fn)(h:P f=some fn):okFn (hd.heap_39 p) (fa f) fn (names f)=true:=by
 unfold P at h;split at h
 ·cases h;exact fnOk_aa p
 ·cases h;exact fnOk_ab p
 ·cases h;exact fnOk_ac p
 ·cases h;exact fnOk_ad p
 ·cases h;exact fnOk_ae p
 ·cases h;exact fnOk_af p
 ·cases h;exact fnOk_ag p
 ·cases h;exact fnOk_ah p
 ·cases h;exact fnOk_ai p
 ·cases h;exact fnOk_aj p
 ·cases h;exact fnOk_ak p
 ·cases h;exact fnOk_al p
 ·cases h;exact fnOk_am p
 ·cases h;exact fnOk_an p
 ·cases h;exact fnOk_ao p
 ·cases h;exact fnOk_ap p
 ·cases h;exact fnOk_aq p
 ·cases h;exact fnOk_ar p
 ·cases h;exact fnOk_as p
 ·cases h;exact fnOk_at p
 ·cases h;exact fnOk_au p
 ·cases h;exact fnOk_av p
 ·cases h;exact fnOk_aw p
 ·cases h;exact fnOk_ax p
 ·cases h;exact fnOk_ay p
 ·cases h;exact fnOk_az p
 ·cases h;exact fnOk_ba p
 ·cases h;exact fnOk_bb p
 ·cases h;exact fnOk_bc p
 ·cases h;exact fnOk_bd p
 ·cases h;exact fnOk_be p
 ·cases h;exact fnOk_bf p
 ·cases h;exact fnOk_bg p
 ·cases h;exact fnOk_bh p
 ·cases h;exact fnOk_bi p
 ·cases h;exact fnOk_bj p
 ·cases h;exact fnOk_bk p
 ·cases h;exact fnOk_bl p
 ·cases h;exact fnOk_bm p
 ·cases h;exact fnOk_bn p
 ·cases h;exact fnOk_bo p
 ·cases h;exact fnOk_bp p
 ·cases h;exact fnOk_bq p
 ·cases h;exact fnOk_br p
 ·cases h;exact fnOk_bs p
 ·cases h;exact fnOk_bt p
 ·cases h;exact fnOk_bu p
 ·cases h;exact fnOk_bv p
 ·cases h;exact fnOk_bw p
 ·cases h;exact fnOk_bx p
 ·cases h;exact fnOk_by p
 ·cases h;exact fnOk_bz p
 ·cases h;exact fnOk_ca p
 ·cases h
theorem all_fns(p:Params):(gFns.all fun q=>nsIn (hd.heap_39 p) mainGlobals q.1 == some (some (.ref (fa q.2)))&&keepIn (hd.heap_39 p) (.ref (fa q.2)))=true:=by kernel_rfl
theorem all_meths(p:Params):(gMeths.all fun q=> !attrNames.contains q.1.cps.toList&&findIn (hd.heap_39 p) (.ref netC) q.1 == some (some (.ref (fa q.2)))&&isFn (hd.heap_39 p) (.ref (fa q.2))&&keepIn (hd.heap_39 p) (.ref (fa q.2)))=true:=by kernel_rfl
def isInt(v:Option (Option Value))(i:Int):Bool:=match v with
 | some (some (.int j _))=>j == i
 | _=>false
theorem all_ints(p:Params):(gInts.all fun q=>isInt (nsIn (hd.heap_39 p) mainGlobals q.1) q.2)=true:=by kernel_rfl
theorem all_bis(p:Params):(gBis.all fun q=>nsIn (hd.heap_39 p) mainGlobals q.1 == some none&&bootBuiltins q.1 == some q.2&&q.1 != "__name__")=true:=by kernel_rfl
theorem net_is(p:Params):(nsIn (hd.heap_39 p) mainGlobals "Netlist" == some (some (.ref netC))&&keepIn (hd.heap_39 p) (.ref netC))=true:=by kernel_rfl
theorem net_makes(p:Params):makesIn (hd.heap_39 p) netC=true:=by kernel_rfl
theorem net_init(p:Params):(findIn (hd.heap_39 p) (.ref netC) "__init__" == some (some (.ref (fa 0)))&&typeIn (hd.heap_39 p) (.ref (fa 0)) == some (.type "function"))=true:=by kernel_rfl
theorem net_cls(p:Params):(plainGet (hd.heap_39 p) netC "" &&hasDictIn (hd.heap_39 p) netC&&plainOver (hd.heap_39 p) netC&&findIn (hd.heap_39 p) (.ref netC) "__setattr__" == some (some (.builtin "object.__setattr__"))&&attrNames.all fun n=>findIn (hd.heap_39 p) (.ref netC) ⟨n.toArray⟩ == some none)=true:=by kernel_rfl
noncomputable def cxOf (prog:Program) (w:World) (hb:Heap) (p:Program) (loose:List PySem.Str) (mg mb:PySem.Str→Option Value):Cx:=⟨prog,w,netC,hb,hd.heap_39 w.params,p,loose,mg,mb⟩
theorem facts_of{prog:Program}{w:World}{hb:Heap}{p:Program}{loose:List PySem.Str}{mg mb:PySem.Str→Option Value}(X:(hd.heap_39 w.params).In hb)(T:TopRead p loose mg mb hb):Facts (cxOf prog w hb p loose mg mb) fa gFns gMeths gInts gBis:=by
 have c:=net_cls w.params;simp only[Bool.and_eq_true,beq_iff_eq,List.all_eq_true]at c;obtain⟨⟨⟨⟨c1,c2⟩,c3⟩,c4⟩,c5⟩:=c;have e1:=all_fns w.params;have e2:=all_meths w.params;have e3:=all_ints w.params;have e4:=all_bis w.params;have e5:=net_is w.params;have e6:=net_init w.params;simp only[List.all_eq_true,Bool.and_eq_true,beq_iff_eq,Bool.not_eq_true',bne_iff_ne,ne_eq]at e1 e2 e3 e4 e5 e6;refine { ok:=⟨X,T⟩,cls:=⟨c1,c2,c3,c4,c5⟩,fns:=fun x f h=> ?_,meths:=fun x f h=> ?_,nums:=fun x i h=> ?_,bis:=fun x v h=> ?_,net:=⟨mg_of X T.g e5.1,e5.2⟩,makes:=net_makes w.params,init:=e6 }
 ·have:=e1 _ (mem_of_lookup h)
  exact⟨mg_of X T.g this.1,this.2⟩
 ·have:=e2 _ (mem_of_lookup h)
  exact⟨this.1.1.1,this.1.1.2,this.1.2,this.2⟩
 ·have:=e3 _ (mem_of_lookup h)
  unfold isInt at this;split at this
  ·rename_i j t e
   rw[beq_iff_eq]at this;subst this;exact⟨t,mg_of X T.g e⟩
  ·cases this
 ·have:=e4 _ (mem_of_lookup h)
  exact⟨mg_none_of X T.g this.1.1,this.1.2,this.2⟩
theorem calls_ok{prog:Program}{w:World}{hb:Heap}{p:Program}{loose:List PySem.Str}{mg mb:PySem.Str→Option Value}(X:(hd.heap_39 w.params).In hb)(T:TopRead p loose mg mb hb)(W n:Nat):CallOk (cxOf prog w hb p loose mg mb) fa (callF P W n) n:=
 callOk (facts_of X T).ok (fun f fn h=>okFn_sound (facts_of X T) (fn_all w.params f fn h)) W n
end Mine
end
section
open PySem PySem.W PyProof.Rows PySem.Calls
namespace Mine
def lawScopeB(scope:Scope)(fs:List PySem.Str):Bool:=
 scope.kind == .function&&fs.all (fun x=>scope.names.lookup x == some .local)&&decide fs.Nodup&&scope.names.all (fun x=>x.2 != .cell&&x.2 != .free)
theorem law_run{prog:Program}{w:World}{p:Program}{loose:List PySem.Str}{mg mb:PySem.Str→Option Value}{s:Shared}{h₀:Heap}{A:Around}{E:Value→Shared→Prop}{nm:PySem.Str}{scope:Scope}{L f a:Addr}{cd:Value}{mm:PySem.Str→Option Value}{fs:List PySem.Str}{rest:List Stmt}{p1 p2 p3 p4 p5 p6:Pos}{k:Nat}
  {x y:PySem.Str} {vals:List Value} {zs:List Int} {W n:Nat} {body:List S} {m':Loc} {H':Hp} {r:Loc} {j:Nat}
  (X:(hd.heap_39 w.params).In h₀) (T:TopRead p loose mg mb h₀) (F:Fr h₀ L s.heap mm) (hx:mm x=some (.ref a)) (hl:h₀.IsList a vals.toArray) (hi:IntsAre vals zs) (hlen:zs.length≤2097152) (hA:AOk A n)
  (hsc:lawScopeB scope fs=true) (hxl:scope.names.lookup x=some .local) (hxd:(x == ("__debug__" :PySem.Str))=false) (hxc:(x == ("__classdict__" :PySem.Str))=false) (hj:fs[j]? =some y)
  (hr:r=(List.replicate fs.length none).set j (some (AV.ref 0))) (hok:okSL scope fs body rest=true) (he:exL (callF P W n) W body r [.list ((zs.take 63).map .int)]=some (.ret (.bool true),m',H')):
  wpAny (model prog w) A (execs (.Assign [.Name y p1] (.Subscript (.Name x p2) (.Slice none (some (.Constant (.int 63) k p3)) none p4) p5) p6::rest) (envOf nm scope L f cd))
   (fun fl s'=>fl= .ret (.bool true)∧(∃ h tk,s'={ s with heap:=h,toks:=tk })∧∀ b o,h₀.get? b=some o→s'.heap.get? b=some o) E s:=by
 have FA:=facts_of (prog:=prog) (w:=w) (hb:=h₀) (p:=p) (loose:=loose) (mg:=mg) (mb:=mb) X T;have CA:=calls_ok (prog:=prog) (w:=w) (hb:=h₀) (p:=p) (loose:=loose) (mg:=mg) (mb:=mb) X T W n;unfold lawScopeB at hsc;simp only[Bool.and_eq_true,beq_iff_eq,List.all_eq_true,decide_eq_true_eq,bne_iff_ne,ne_eq]at hsc;obtain⟨⟨⟨k1,k2⟩,k3⟩,k4⟩:=hsc;have I0:Inv (cxOf prog w h₀ p loose mg mb) [] [] s.heap:=by
  refine⟨⟨rfl,List.nodup_nil,fun i o a e=>by simp at e⟩,F.keep,fun a ha=>(by cases ha),?_,fun a ha=>(by cases ha)⟩
  obtain⟨mc,hc,_⟩:=T.nolimit;exact Ns.alive hc
 have hLn:h₀.get? L=none:=Heap.get?_none_of_le F.above;have SC:SCtx (cxOf prog w h₀ p loose mg mb) (envOf nm scope L f cd) fs [] (List.replicate fs.length none) [] [] [] s.heap:=by
  refine⟨⟨I0,k1,rfl,rfl,fun b eb=> ?_,fun i z v _ _ hm=> ?_,fun i z v hz _=>by simp at hz,rfl,fun z hz=> ?_⟩,⟨⟨mm,F.ns⟩,fun _ q hq=>by cases hq⟩⟩
  ·rcases eb with eb | ⟨z,hz⟩
   ·have eb:b=L:=eb
    subst eb;exact⟨by simp,Ns.alive F.ns,hLn⟩
   ·cases hz
  ·rw[List.getElem?_replicate]at hm
   split at hm<;>cases hm
  ·rcases hz with q | q
   ·exact absurd rfl (k4 _ (mem_of_lookup q)).1
   ·exact absurd rfl (k4 _ (mem_of_lookup q)).2
 have SO:StoreOk (envOf nm scope L f cd) fs:=⟨k1,fun q hq=>(by cases hq),fun z hz=> .inl (k2 z hz),k3⟩
 refine wpAny_execs_cons (wpAny_Assign_stores ?_ (show swapsWith (.Subscript (.Name x p2) (.Slice none (some (.Constant (.int 63) k p3)) none p4) p5) (some (.Name y p1)) p6.line (envOf nm scope L f cd)=pure false from swaps_plain rfl) (swapped_plain rfl))
 refine wpAny_Subscript_list_slice ?_ (fun _ _=>rfl)
 refine r_var (cx:=cxOf prog w h₀ p loose mg mb) k1 (.inl ⟨hxl,mm,F.ns,hx⟩) hxd hxc ?_
 show wpAny _ _ (pure Value.none) _ _ _
 refine wpAny_pure ?_
 show wpAny _ _ (eval (.Constant (.int 63) k p3) _) _ _ _
 with_reducible refine wpAny_Constant_int ?_
 obtain⟨lo,hlo,hlc,q,hld⟩:=hl;have hvl:vals.length=zs.length:=hi.length;have z2:=zSize;refine⟨a,vals.toArray,none,some (63:Int),rfl,⟨lo,F.keep _ _ hlo,hlc,q,hld⟩,by rw[List.size_toArray];omega,by constructor,by constructor,?_⟩
 have e63:(63:Int)=((63:Nat):Int):=rfl;rw[e63,slicePick_upto'];have kk:∀ b o,s.heap.get? b=some o→((s.heap.push { cls:= .type "slice",data:= .fields #[.none,.int ((63:Nat):Int) s.toks,.none] }).push { cls:= .type "list",data:= .seq (vals.toArray.toList.take 63).toArray }).get? b=some o:=fun b o e=>Heap.get?_push_of_some _ (Heap.get?_push_of_some _ e)
 have hz1:(s.heap.push { cls:= .type "slice",data:= .fields #[.none,.int ((63:Nat):Int) s.toks,.none] }).objs.size=s.heap.objs.size+1:=Heap.size_push ..;have fr:s.heap.get? (s.heap.objs.size+1)=none:=by
  cases q:s.heap.get? (s.heap.objs.size+1) with
  | none=>rfl
  | some o=>exact absurd (Heap.lt_size q) (Nat.not_lt.mpr (Nat.le_succ _))
 have rep:∀ {J:Jm} {h:Heap} {vs:List Value} {is:List Int},IntsAre vs is→RepL J h (is.map AV.int) vs:=by
  intro J h vs is hh;induction hh with
  | nil=>rfl
  | cons _ _ _ ih=>exact ⟨_,_,rfl,⟨_,rfl⟩,ih⟩
 have EP:EPost (cxOf prog w h₀ p loose mg mb) [] s (.ref 0) [.list ((zs.take 63).map .int)] (.ref (s.heap.objs.size+1)) { s with heap:=(s.heap.push { cls:= .type "slice",data:= .fields #[.none,.int ((63:Nat):Int) s.toks,.none] }).push { cls:= .type "list",data:= .seq (vals.toArray.toList.take 63).toArray },toks:=s.toks+1 }:=by
  refine EPost.adopt (J':=[]) (H':=[]) ⟨_,_,rfl⟩ (Stp.of_keeps kk) (I0.keeps kk) (by simp) fr (new_none I0 fr) (I0.above_sys (Nat.le_succ _)) ?_
  refine⟨(vals.toArray.toList.take 63).toArray,0,?_,?_,?_⟩
  ·rw[← hz1];exact Heap.get?_push_size _ rfl
  ·have:=(rep (J:=[s.heap.objs.size+1]) (h:=(s.heap.push { cls:= .type "slice",data:= .fields #[.none,.int ((63:Nat):Int) s.toks,.none] }).push { cls:= .type "list",data:= .seq (vals.toArray.toList.take 63).toArray }) hi).take 63
   rw[List.map_take];simpa using this
  ·rw[List.size_toArray,List.length_take];omega
 obtain⟨J1,sm1,S1,X1,r1⟩:=EP.x SC;have hae:(assignEach [.Name y p1] (envOf nm scope L f cd)).map (·.2)=[PySem.assign (.Name y p1) (envOf nm scope L f cd)]:=rfl;rw[hae];show wpAny _ A (PySem.assign (.Name y p1) (envOf nm scope L f cd) (.ref (s.heap.objs.size+1))) _ E _
 refine st_fun (cx:=cxOf prog w h₀ p loose mg mb) SO hj X1 r1 fun s2 hst=> ?_
 obtain⟨sm2,S2,X2⟩:=hst;rw[← hr]at X2;refine okSL_sound FA CA scope fs body rest hok (envOf nm scope L f cd) A s2 J1 _ r _ m' H' _ E rfl hA SO X2 he fun fl s3 p3=> ?_
 obtain⟨sm3,J3,S3,X3,val,rfl,r3⟩:=p3;cases r3;exact⟨rfl,same_trans sm1 (same_trans sm2 sm3),X3.ctx.inv.base⟩
end Mine
end
section
open PySem PySem.W PyProof.Rows PySem.Calls
set_option maxHeartbeats 4000000
namespace Mine
theorem joint:PySem.Challenge.rw_nn0324_01.Holds:=hd (by
 k_go0
 rename Frag.In _ _=>KX
 rename Top _ _ _ _ _ _=>T
 rename Fr _ _ _ _=>F
 rename IntsAre _ _=>hI
 rename Heap.IsList _ _ _=>hL
 rename ¬ _=>hc
 have hlen:_≤63:=Nat.not_lt.mp (fun z=>hc (by exact_mod_cast z))
 obtain⟨m',H',he⟩:=plain _ hlen;refine wpAny_mono (law_run (W:=1000) (n:=20) (fs:=names 52) (body:=f_law.body.drop 1) (r:=lawStart) (j:=1) KX (topRead_of T) F rfl hL hI ?_ ?_ ?_ ?_ ?_ ?_ ?_ ?_ ?_ he) (fun fl s' q=> ?_) (fun _ _ q=>q)
 ·omega
 ·refine⟨rfl,?_,?_⟩
  ·show 302+3 * 20+12<1000;decide
  ·show 7+20 * 20+220<9900;decide
 ·kernel_rfl
 ·kernel_rfl
 ·kernel_rfl
 ·kernel_rfl
 ·kernel_rfl
 ·kernel_rfl
 ·kernel_rfl
 ·obtain⟨rfl,⟨h2,tk,rfl⟩,kp⟩:=q
  show GoodW _ _ _ _ _ (.ok (.ret (.bool true))) _
  refine⟨.inl ⟨_,.bool true,[],rfl,raisesW_false (by wrow_none_raised),.bool true,?_,unshared_nil⟩,kp,rfl,by assumption⟩
  wrow_post)
end Mine
end
theorem PySem.Challenge.cw_nn0324_01_holds : PySem.Challenge.rw_nn0324_01.Holds :=
  Mine.joint
