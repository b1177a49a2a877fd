import PyProof.Rows.All
import Wide.All
import OpenK.AllK
import Wide.FinOn
import Open.Tops
import KE.KItem
import KE.KEqDict
import KE.BitLaws
import PyProof.StrBlockI
import PyProof.DelItemList
import PyProof.SliceList
import PyProof.SliceMore
import PyProof.RulesAssignMore
import PyProof.DictTable
import PyProof.WalksMore
import PyProof.RangeFor
import PyProof.DictWalks
import PyProof.DefCall
import PyProof.ForAppend
import Lean
import PySem.Challenge.RW_qd0045_01
set_option Elab.async false
set_option maxRecDepth 100000
set_option maxHeartbeats 4000000
set_option linter.all false
section
namespace Mine
open PySem
theorem nn {α:Type} {r:α} {P:Prop} (h:none=some r):P:=nomatch h
theorem no {P:Prop} (h:false=true):P:=Bool.noConfusion h
set_option genSizeOf false
inductive AV where
 | none
 | bool (b:Bool)
 | int (i:Int)
 | str (s:List Nat)
 | tup (xs:List AV)
 | obj (r:Nat)
 | cst (a:Nat)
 deriving Inhabited
mutual
noncomputable def AV.eqb:AV→AV→Bool
 | .none,y=>match y with | .none=>true | _=>false
 | .bool a,y=>match y with | .bool b=>a == b | _=>false
 | .int a,y=>match y with | .int b=>decide (a=b) | _=>false
 | .str a,y=>match y with | .str b=>decide (a=b) | _=>false
 | .tup xs,y=>match y with | .tup ys=>AV.eqbs xs ys | _=>false
 | .obj a,y=>match y with | .obj b=>Nat.beq a b | _=>false
 | .cst a,y=>match y with | .cst b=>Nat.beq a b | _=>false
noncomputable def AV.eqbs:List AV→List AV→Bool
 | [],ys=>match ys with | []=>true | _=>false
 | x::xs,ys=>match ys with | y::ys=>AV.eqb x y&&AV.eqbs xs ys | _=>false
end
mutual
theorem AV.eqb_refl:∀ x:AV,AV.eqb x x=true
 | .none=>rfl
 | .bool _=>beq_self_eq_true _
 | .int _=>decide_eq_true rfl
 | .str _=>decide_eq_true rfl
 | .tup xs=>AV.eqbs_refl xs
 | .obj n=>Nat.beq_refl n
 | .cst n=>Nat.beq_refl n
theorem AV.eqbs_refl:∀ xs:List AV,AV.eqbs xs xs=true
 | []=>rfl
 | x::xs=>Bool.and_eq_true _ _ ▸ ⟨AV.eqb_refl x,AV.eqbs_refl xs⟩
end
mutual
theorem AV.eqb_eq:∀ {x y:AV},AV.eqb x y=true→x=y
 | .none,y,h=>by cases y with | none=>rfl | _=>exact Bool.noConfusion h
 | .bool b,y,h=>by cases y with | bool a=>exact congrArg _ (eq_of_beq h) | _=>exact Bool.noConfusion h
 | .int b,y,h=>by cases y with | int a=>exact congrArg _ (of_decide_eq_true h) | _=>exact Bool.noConfusion h
 | .str b,y,h=>by cases y with | str a=>exact congrArg _ (of_decide_eq_true h) | _=>exact Bool.noConfusion h
 | .tup xs,y,h=>by cases y with | tup ys=>exact congrArg _ (AV.eqbs_eq h) | _=>exact Bool.noConfusion h
 | .obj b,y,h=>by cases y with | obj a=>exact congrArg _ (Nat.eq_of_beq_eq_true h) | _=>exact Bool.noConfusion h
 | .cst b,y,h=>by cases y with | cst a=>exact congrArg _ (Nat.eq_of_beq_eq_true h) | _=>exact Bool.noConfusion h
theorem AV.eqbs_eq:∀ {xs ys:List AV},AV.eqbs xs ys=true→xs=ys
 | [],ys,h=>by cases ys with | nil=>rfl | _=>exact Bool.noConfusion h
 | x::xs,ys,h=>by
  cases ys with
  | nil=>exact Bool.noConfusion h
  | cons y ys =>
   have h:=Bool.and_eq_true _ _ ▸ (h:(AV.eqb x y&&AV.eqbs xs ys)=true)
   exact AV.eqb_eq h.1 ▸ AV.eqbs_eq h.2 ▸ rfl
end
noncomputable instance:DecidableEq AV:=fun x y=>if h:AV.eqb x y=true then .isTrue (AV.eqb_eq h) else .isFalse fun e=>h (e ▸ AV.eqb_refl x)
inductive KK where | int | str | tup
 deriving DecidableEq
inductive AO where
 | list (xs:List AV)
 | dict (k:Option KK) (es:List (AV×AV))
 | inst (c:Nat) (fs:List (Nat×AV))
noncomputable abbrev AH:=List AO
set_option genInjectivity false
inductive X where
 | none | bool (b:Bool) | int (i:Int) | str (cs:List Nat)
 | loc (i:Nat) | glb (i:Nat)
 | band (es:List X) | bor (es:List X)
 | bin (op:Operator) (a b:X) | neg (a:X) | bnot (a:X)
 | cmp (a:X) (ops:List CmpOp) (bs:List X)
 | call (f:Nat) (args:List X) | new (c:Nat) (args:List X) | meth (o:X) (n:Nat) (args:List X)
 | append (o e:X) | pop (o:X) | get1 (o k:X) | get2 (o k d:X)
 | attr (o:X) (n:Nat) | idx (o i:X)
 | sliceAll (o:X) | sliceTo (o:X) (k:Nat) | sliceFrom (o:X) (k:Nat)
 | tup (es:List X) | lst (es:List X) | dic (kvs:List X)
 | len (e:X) | isB (e:X) | range (e:X) | tuple (e:X) | max2 (a b:X) | min2 (a b:X)
 | bad
inductive Tg where
 | name (i:Nat) | attr (o:X) (n:Nat) | idx (o i:X) | names (is:List Nat)
inductive S where
 | expr (e:X)
 | set (t:Tg) (e:X)
 | augA (o:X) (n:Nat) (op:Operator) (e:X)
 | augN (i:Nat) (op:Operator) (e:X)
 | ite (t:X) (b o:List S)
 | loop (i:Nat) (it:X) (b:List S)
 | loopK (i f:Nat) (ks:List (List Nat)) (b:List S)
 | while (t:X) (b:List S)
 | ret (e:X)
 | delAll (o:X)
 | bad
end Mine
end
section
namespace Mine
open PySem
noncomputable def zc {α:Type} (i:Nat):List (Nat×α)→Option α
 | []=>none
 | (j,v)::r=>match Nat.beq j i with
  | true=>some v
  | false=>zc i r
noncomputable def zf {α:Type} (i:Nat) (v:α):List (Nat×α)→List (Nat×α)
 | []=>[(i,v)]
 | (j,u)::r=>match Nat.beq j i with
  | true=>(j,v)::r
  | false=>(j,u)::zf i v r
noncomputable def ze (k:AV):List (AV×AV)→Option AV
 | []=>none
 | (j,v)::r=>match AV.eqb j k with
  | true=>some v
  | false=>ze k r
noncomputable def zB (k v:AV):List (AV×AV)→List (AV×AV)
 | []=>[(k,v)]
 | (j,u)::r=>match AV.eqb j k with
  | true=>(j,v)::r
  | false=>(j,u)::zB k v r
noncomputable def zg:Nat→AV→Bool
 | _,.none=>true
 | _,.int _=>true
 | _,.str s=>decide (s.length≤1000)&&s.all fun c=>decide (c < 55296)
 | n + 1,.tup xs=>xs.all (zg n)
 | _,_=>false
noncomputable def yi:Nat→AV→Bool
 | _,.int _=>true
 | _,.str s=>decide (s.length≤1000)&&s.all fun c=>decide (c < 55296)
 | n + 1,.tup xs=>xs.all (yi n)
 | _,_=>false
noncomputable def kk:AV→Option KK
 | .int _=>some .int
 | .str s=>match yi 0 (.str s) with
  | true=>some .str
  | false=>none
 | .tup xs=>match xs.all (yi 6) with
  | true=>some .tup
  | false=>none
 | _=>none
noncomputable def big:Nat:=1000000
section
variable {α:Type}
noncomputable def JJ (a:AV) (f:Int→Option α):Option α:=match a with | .int n=>f n | _=>none
noncomputable def zmw (a:AV) (f:List Nat→Option α):Option α:=match a with | .str n=>f n | _=>none
noncomputable def zlv (a:AV) (f:List AV→Option α):Option α:=match a with | .tup n=>f n | _=>none
noncomputable def zei (a:AV) (f:Nat→Option α):Option α:=match a with | .obj n=>f n | _=>none
noncomputable def zhN (o:Option AO) (f:List AV→Option α):Option α:=o.bind fun o=>match o with | .list xs=>f xs | _=>none
noncomputable def zfF (o:Option AO) (f:Option KK→List (AV×AV)→Option α):Option α:=o.bind fun o=>match o with | .dict k es=>f k es | _=>none
noncomputable def zhV (o:Option AO) (f:Nat→List (Nat×AV)→Option α):Option α:=o.bind fun o=>match o with | .inst k es=>f k es | _=>none
end
noncomputable def Wh (kd:Option KK) (es:List (AV×AV)) (k:AV):Option (Option AV):=(kk k).bind fun a=>match kd with
 | none=>some none
 | some b=>if a=b then some (ze k es) else none
noncomputable def Yq (kd:Option KK) (es:List (AV×AV)) (k v:AV):Option AO:=(kk k).bind fun a=>if (kd=none∨kd=some a)∧es.length < big then some (.dict (some a) (zB k v es)) else none
noncomputable def cdL:List (List (Int×Int)):=[
 [(0,20),(1,9),(2,10),(3,11),(4,12),(5,13),(6,14),(7,15),(8,16),(9,17),(10,18),(11,19),(12,1),(13,4)],
 [(20,0),(9,1),(10,2),(11,3),(12,4),(13,5),(14,6),(15,7),(16,8),(17,9),(18,10),(19,11),(1,12),(4,13)],
 [(1,1),(3,1),(4,1),(2,2),(5,2),(6,2),(7,4),(8,4),(9,8),(10,8),(11,5)]]
noncomputable def Yi (k:Nat):Option (List (Int×Int)):=cdL[k]?
noncomputable def Ku (k:Int):List (Int×Int)→Option Int
 | []=>none
 | (j,v)::r=>if j=k then some v else Ku k r
noncomputable def lookIn (H:AH) (o k:AV):Option (Option AV):=match o with
 | .obj r=>zfF H[r]? fun kd es=>Wh kd es k
 | .cst c=>(Yi c).bind fun t=>JJ k fun i=>some ((Ku i t).map .int)
 | _=>none
noncomputable def Ke (H:AH) (o:AV):Bool:=match o with
 | .obj r=>match H[r]? with
  | some (.dict _ _)=>true
  | _=>false
 | .cst c=>(Yi c).isSome
 | _=>false
noncomputable def iiA (a b:AV) (f:Int→Int→Option (AV×AH)):Option (AV×AH):=JJ a fun x=>JJ b fun y=>f x y
noncomputable def lsA (H:AH) (a:AV) (f:List AV→Option (AV×AH)):Option (AV×AH):=zei a fun r=>zhN H[r]? f
noncomputable def zoo (a b:AV) (H:AH):Option (AV×AH):=match a with
 | .int _=>iiA a b fun x y=>some (.int (x + y),H)
 | .str x=>zmw b fun y=>if x.length + y.length≤1000 then some (.str (x++y),H) else none
 | .obj _=>lsA H a fun xs=>lsA H b fun ys=>if xs.length + ys.length≤big then some (.obj H.length,H++[.list (xs++ys)]) else none
 | _=>none
noncomputable def znz (a b:AV) (H:AH):Option (AV×AH):=match a with
 | .int _=>iiA a b fun x y=>if x.natAbs < 2 ^ 64∨y.natAbs < 2 ^ 64 then some (.int (x * y),H) else none
 | .obj _=>lsA H a fun xs=>JJ b fun n=>if 0≤n∧n≤100∧xs.length≤2 then some (.obj H.length,H++[.list (List.replicate n.toNat xs).flatten]) else none
 | _=>none
noncomputable def qd (op:Operator) (a b:AV) (H:AH):Option (AV×AH):=match op with
 | .Add=>zoo a b H
 | .Sub=>iiA a b fun x y=>some (.int (x - y),H)
 | .Mult=>znz a b H
 | .FloorDiv=>iiA a b fun x y=>if y=0∨2 ^ 65≤y.natAbs then none else some (.int (x.fdiv y),H)
 | .Mod=>iiA a b fun x y=>if y=0∨2 ^ 65≤y.natAbs then none else some (.int (x.fmod y),H)
 | .Pow=>iiA a b fun x y=>if x.natAbs < 2 ^ 64∧0≤y∧y≤64 then some (.int (x ^ y.toNat),H) else none
 | .LShift=>iiA a b fun x y=>if x.natAbs < 2 ^ 64∧0≤y∧y≤64 then some (.int (x * 2 ^ y.toNat),H) else none
 | .RShift=>iiA a b fun x y=>if 0≤y then some (.int (x.fdiv (2 ^ y.toNat)),H) else none
 | .BitAnd=>iiA a b fun x y=>some (.int (Builtin.bitAnd x y),H)
 | _=>none
noncomputable def eqA (a b:AV) (H:AH):Option Bool:=match a with
 | .int x=>JJ b fun y=>some (decide (x=y))
 | .str x=>zmw b fun y=>some (decide (x=y))
 | .tup xs=>zlv b fun ys=>if (xs.all (zg 5)&&ys.all (zg 5))=true then some (AV.eqbs xs ys) else none
 | .obj r=>zei b fun q=>H[r]?.bind fun o=>match o with
  | .list xs=>zhN H[q]? fun ys=>if (xs.all (zg 6)&&ys.all (zg 6))=true then some (AV.eqbs xs ys) else none
  | .dict kd es=>zfF H[q]? fun kd' es' =>
   if (kd≠some .str∧kd≠some .tup∧kd'≠some .str∧kd'≠some .tup∧(es.all fun e=>zg 0 e.2)=true∧(es'.all fun e=>zg 0 e.2)=true) then
    some (decide (es.length=es'.length)&&es.all fun e=>decide (ze e.1 es'=some e.2))
   else none
  | _=>none
 | _=>none
noncomputable def isN (a:AV):Bool:=match a with | .none=>true | _=>false
noncomputable def zcn (a:AV) (o:Option Bool):Option Bool:=match a with | .none=>o | _=>none
noncomputable def zlG (a b:AV) (H:AH):Option Bool:=match b with
 | .tup ys=>if (zg 5 a&&ys.all (zg 5))=true then some (ys.any fun y=>AV.eqb y a) else none
 | _=>(lookIn H b a).map (·.isSome)
noncomputable def qr (op:CmpOp) (a b:AV) (H:AH):Option Bool:=match op with
 | .Eq=>eqA a b H
 | .NotEq=>(eqA a b H).map (!·)
 | .Lt=>JJ a fun x=>JJ b fun y=>some (decide (x < y))
 | .LtE=>JJ a fun x=>JJ b fun y=>some (decide (x≤y))
 | .Gt=>JJ a fun x=>JJ b fun y=>some (decide (y < x))
 | .GtE=>JJ a fun x=>JJ b fun y=>some (decide (y≤x))
 | .Is=>zcn b (some (isN a))
 | .IsNot=>zcn b (some (!isN a))
 | .In=>zlG a b H
 | .NotIn=>(zlG a b H).map (!·)
noncomputable def truth:AV→Option Bool
 | .bool b=>some b
 | .int i=>some (decide (i≠0))
 | _=>none
noncomputable def index (scr:List Int) (H:AH) (o i:AV):Option AV:=match o with
 | .cst c=>match Nat.beq c 3 with
  | true=>JJ i fun k=>if 0≤k∧k < 1000000 then (scr[k.toNat]?).map .int else none
  | false=>(lookIn H o i).join
 | .tup xs=>JJ i fun k=>if 0≤k∧k < 1000000 then xs[k.toNat]? else none
 | .obj r=>H[r]?.bind fun o=>match o with
  | .list xs=>JJ i fun k=>if 0≤k∧k < 1000000 then xs[k.toNat]? else none
  | .dict kd es=>(Wh kd es i).join
  | _=>none
 | _=>none
noncomputable def yT (H:AH) (o i v:AV):Option AH:=zei o fun r=>H[r]?.bind fun o=>match o with
 | .list xs=>JJ i fun k=>if 0≤k∧k < xs.length∧k < 1000000 then some (H.set r (.list (xs.set k.toNat v))) else none
 | .dict kd es=>(Yq kd es i v).map fun o=>H.set r o
 | _=>none
noncomputable def zg7 (n:Nat):List Nat→Bool
 | []=>false
 | j::r=>Nat.beq j n || zg7 n r
noncomputable def zoM:List (List Nat):=[[],[],[2,3,4,5],[8,9,10,11,12,13],[14,1,15,16,17,18,19,20,21,22,23,24],[25,26,27],[31,32,33,34,28,30,35,36,37,38,29,39,40,41,42],[],[],[],[],
 [46,47,25,48,2,49,50,51,21,26,52,13,43,53,54,27,55,56,57,44,58,59,60,61,62,63,64,65,66,67,68],[47,72,73,74,75,76,77]]
noncomputable def zj2 (k:Nat):List Nat:=(zoM[k]?).getD []
noncomputable def JA (c n:Nat):Bool:=zg7 n (zj2 c)
noncomputable def yI (H:AH) (o:AV) (n:Nat):Option AV:=zei o fun r=>zhV H[r]? fun c fs=>if JA c n=true then zc n fs else none
noncomputable def yv (H:AH) (o:AV) (n:Nat) (v:AV):Option AH:=zei o fun r=>zhV H[r]? fun c fs=>if JA c n=true∧fs.length < 100 then some (H.set r (.inst c (zf n v fs))) else none
noncomputable def YV:List AV→Option KK→List (AV×AV)→Option AO
 | [],kd,es=>some (.dict kd es)
 | k::r,kd,es=>match r with
  | []=>none
  | v::vs=>zfF (Yq kd es k v) fun kd' es'=>YV vs kd' es'
structure Kb where
 scr:List Int
 glob:Nat→Option AV
 meth:Nat→Nat→Option Nat
 init:Nat→Option Nat
noncomputable abbrev zi:=Nat→List AV→AH→Option (AV×AH)
noncomputable abbrev Loc:=List (Nat×AV)
noncomputable def zru (v:AV) (H:AH):Option (AV×AH):=some (v,H)
mutual
noncomputable def evE (G:Kb) (C:zi):X→Loc→AH→Option (AV×AH)
 | .none,_,H=>some (.none,H)
 | .bool b,_,H=>some (.bool b,H)
 | .int i,_,H=>some (.int i,H)
 | .str cs,_,H=>some (.str cs,H)
 | .loc i,ρ,H=>(zc i ρ).map fun v=>(v,H)
 | .glb i,_,H=>(G.glob i).map fun v=>(v,H)
 | .band es,ρ,H=>zfx G C es ρ H
 | .bor es,ρ,H=>zlL G C es ρ H
 | .bin op a b,ρ,H=>(evE G C a ρ H).bind fun p=>(evE G C b ρ p.2).bind fun q=>qd op p.1 q.1 q.2
 | .neg a,ρ,H=>(evE G C a ρ H).bind fun p=>match p.1 with | .int i=>some (.int (-i),p.2) | _=>none
 | .bnot a,ρ,H=>(evE G C a ρ H).bind fun p=>(truth p.1).map fun b=>(.bool (!b),p.2)
 | .cmp a ops bs,ρ,H=>(evE G C a ρ H).bind fun p=>(YB G C p.1 ops bs ρ p.2).map fun q=>(.bool q.1,q.2)
 | .call f args,ρ,H=>(KB G C args ρ H).bind fun p=>C f p.1 p.2
 | .new c args,ρ,H=>(KB G C args ρ H).bind fun p =>
  match G.init c with
  | some f=>(C f (.obj p.2.length::p.1) (p.2++[.inst c []])).bind fun q=>match q.1 with | .none=>some (.obj p.2.length,q.2) | _=>none
  | none=>match p.1 with | []=>some (.obj p.2.length,p.2++[.inst c []]) | _=>none
 | .meth o n args,ρ,H=>(evE G C o ρ H).bind fun p=>match p.1 with
  | .obj r=>match p.2[r]? with
   | some (.inst c fs)=>match G.meth c n,zc n fs with
    | some f,none=>(KB G C args ρ p.2).bind fun q=>C f (.obj r::q.1) q.2
    | _,_=>none
   | _=>none
  | _=>none
 | .append o e,ρ,H=>(evE G C o ρ H).bind fun p=>match p.1 with
  | .obj r=>match p.2[r]? with
   | some (.list _)=>(evE G C e ρ p.2).bind fun q=>match q.2[r]? with
    | some (.list xs)=>if xs.length < big then some (.none,q.2.set r (.list (xs++[q.1]))) else none
    | _=>none
   | _=>none
  | _=>none
 | .pop o,ρ,H=>(evE G C o ρ H).bind fun p=>match p.1 with
  | .obj r=>match p.2[r]? with
   | some (.list xs)=>match xs.getLast? with
    | some v=>if xs.length≤big then some (v,p.2.set r (.list xs.dropLast)) else none
    | none=>none
   | _=>none
  | _=>none
 | .get1 o k,ρ,H=>(evE G C o ρ H).bind fun p=>match Ke p.2 p.1 with
  | true=>(evE G C k ρ p.2).bind fun q=>(lookIn q.2 p.1 q.1).map fun r=>(r.getD .none,q.2)
  | false=>none
 | .get2 o k d,ρ,H=>(evE G C o ρ H).bind fun p=>match Ke p.2 p.1 with
  | true=>(evE G C k ρ p.2).bind fun q=>(evE G C d ρ q.2).bind fun t=>(lookIn t.2 p.1 q.1).map fun r=>(r.getD t.1,t.2)
  | false=>none
 | .attr o n,ρ,H=>(evE G C o ρ H).bind fun p=>(yI p.2 p.1 n).map fun v=>(v,p.2)
 | .idx o i,ρ,H=>(evE G C o ρ H).bind fun p=>(evE G C i ρ p.2).bind fun q=>(index G.scr q.2 p.1 q.1).map fun v=>(v,q.2)
 | .sliceAll o,ρ,H=>(evE G C o ρ H).bind fun p=>match p.1 with
  | .obj r=>match p.2[r]? with
   | some (.list xs)=>if xs.length≤big then some (.obj p.2.length,p.2++[.list xs]) else none
   | _=>none
  | _=>none
 | .sliceTo o k,ρ,H=>(evE G C o ρ H).bind fun p=>match p.1 with
  | .str cs=>if 1≤k∧cs.length≤1000 then some (.str (cs.take (cs.length - k)),p.2) else none
  | _=>none
 | .sliceFrom o k,ρ,H=>(evE G C o ρ H).bind fun p=>match p.1 with
  | .str cs=>if 1≤k∧cs.length≤1000 then some (.str (cs.drop (cs.length - k)),p.2) else none
  | _=>none
 | .tup es,ρ,H=>(KB G C es ρ H).map fun p=>(.tup p.1,p.2)
 | .lst es,ρ,H=>(KB G C es ρ H).map fun p=>(.obj p.2.length,p.2++[.list p.1])
 | .dic es,ρ,H=>(KB G C es ρ H).bind fun p=>(YV p.1 none []).map fun o=>(.obj p.2.length,p.2++[o])
 | .len e,ρ,H=>(evE G C e ρ H).bind fun p=>match p.1 with
  | .tup xs=>if xs.length≤big then some (.int xs.length,p.2) else none
  | .obj r=>match p.2[r]? with
   | some (.list xs)=>if xs.length≤big then some (.int xs.length,p.2) else none
   | _=>none
  | .cst c=>match Nat.beq c 3 with
   | true=>if G.scr.length≤big then some (.int G.scr.length,p.2) else none
   | false=>none
  | _=>none
 | .isB e,ρ,H=>(evE G C e ρ H).bind fun p=>match p.1 with
  | .int _=>some (.bool false,p.2)
  | _=>none
 | .tuple e,ρ,H=>(evE G C e ρ H).bind fun p=>match p.1 with
  | .obj r=>match p.2[r]? with
   | some (.list xs)=>if xs.length≤big then some (.tup xs,p.2) else none
   | _=>none
  | _=>none
 | .max2 a b,ρ,H=>(evE G C a ρ H).bind fun p=>(evE G C b ρ p.2).bind fun q=>match p.1,q.1 with
  | .int x,.int y=>some (.int (if x < y then y else x),q.2)
  | _,_=>none
 | .min2 a b,ρ,H=>(evE G C a ρ H).bind fun p=>(evE G C b ρ p.2).bind fun q=>match p.1,q.1 with
  | .int x,.int y=>some (.int (if y < x then y else x),q.2)
  | _,_=>none
 | .range _,_,_=>none
 | .bad,_,_=>none
noncomputable def KB (G:Kb) (C:zi):List X→Loc→AH→Option (List AV×AH)
 | [],_,H=>some ([],H)
 | e::es,ρ,H=>(evE G C e ρ H).bind fun p=>(KB G C es ρ p.2).map fun q=>(p.1::q.1,q.2)
noncomputable def zfx (G:Kb) (C:zi):List X→Loc→AH→Option (AV×AH)
 | [],_,_=>none
 | e::es,ρ,H=>(evE G C e ρ H).bind fun p=>match es with
  | []=>some p
  | e'::es'=>(truth p.1).bind fun b=>match b with
   | true=>zfx G C (e'::es') ρ p.2
   | false=>some p
noncomputable def zlL (G:Kb) (C:zi):List X→Loc→AH→Option (AV×AH)
 | [],_,_=>none
 | e::es,ρ,H=>(evE G C e ρ H).bind fun p=>match es with
  | []=>some p
  | e'::es'=>(truth p.1).bind fun b=>match b with
   | false=>zlL G C (e'::es') ρ p.2
   | true=>some p
noncomputable def YB (G:Kb) (C:zi):AV→List CmpOp→List X→Loc→AH→Option (Bool×AH)
 | a,[op],[e],ρ,H=>(evE G C e ρ H).bind fun p=>(qr op a p.1 p.2).map fun b=>(b,p.2)
 | a,op::ops,e::es,ρ,H=>(evE G C e ρ H).bind fun p=>(qr op a p.1 p.2).bind fun b=>match b with
  | true=>YB G C p.1 ops es ρ p.2
  | false=>some (false,p.2)
 | _,_,_,_,_=>none
end
mutual
noncomputable def tst (G:Kb) (C:zi):X→Loc→AH→Option (Bool×AH)
 | .bnot e,ρ,H=>(tst G C e ρ H).map fun p=>(!p.1,p.2)
 | .band es,ρ,H=>zbK G C es ρ H
 | .bor es,ρ,H=>zci G C es ρ H
 | .cmp a ops bs,ρ,H=>(evE G C a ρ H).bind fun p=>YB G C p.1 ops bs ρ p.2
 | .call f as,ρ,H=>(evE G C (.call f as) ρ H).bind fun p=>(truth p.1).map fun b=>(b,p.2)
 | .loc i,ρ,H=>(evE G C (.loc i) ρ H).bind fun p=>(truth p.1).map fun b=>(b,p.2)
 | .bin op a b,ρ,H=>(evE G C (.bin op a b) ρ H).bind fun p=>(truth p.1).map fun b=>(b,p.2)
 | .isB e,ρ,H=>(evE G C (.isB e) ρ H).bind fun p=>(truth p.1).map fun b=>(b,p.2)
 | _,_,_=>none
noncomputable def zbK (G:Kb) (C:zi):List X→Loc→AH→Option (Bool×AH)
 | [],_,H=>some (true,H)
 | e::es,ρ,H=>(tst G C e ρ H).bind fun p=>match p.1 with
  | true=>zbK G C es ρ p.2
  | false=>some (false,p.2)
noncomputable def zci (G:Kb) (C:zi):List X→Loc→AH→Option (Bool×AH)
 | [],_,H=>some (false,H)
 | e::es,ρ,H=>(tst G C e ρ H).bind fun p=>match p.1 with
  | false=>zci G C es ρ p.2
  | true=>some (true,p.2)
end
inductive Fl where
 | next | ret (v:AV)
noncomputable def y8:List Nat→List AV→Loc→Option Loc
 | [],[],ρ=>some ρ
 | i::is,v::vs,ρ=>y8 is vs (zf i v ρ)
 | _,_,_=>none
noncomputable def Vt (turn:AV→Loc→AH→Option (Fl×Loc×AH)) (same:AH→Bool):List AV→Loc→AH→Option (Fl×Loc×AH)
 | [],ρ,H=>some (.next,ρ,H)
 | v::vs,ρ,H=>(turn v ρ H).bind fun p=>match p.1 with
  | .next=>match same p.2.2 with
   | true=>Vt turn same vs p.2.1 p.2.2
   | false=>none
  | .ret v=>some (.ret v,p.2)
noncomputable def yo:Nat→List AV:=fun n=>(List.range n).map fun (i:Nat)=>AV.int (Int.ofNat i)
noncomputable def jT (t:Loc→AH→Option (Bool×AH)) (b:Loc→AH→Option (Fl×Loc×AH)):Nat→Loc→AH→Option (Fl×Loc×AH)
 | 0,_,_=>none
 | n + 1,ρ,H=>(t ρ H).bind fun p=>match p.1 with
  | false=>some (.next,ρ,p.2)
  | true=>(b ρ p.2).bind fun q=>match q.1 with
   | .next=>jT t b n q.2.1 q.2.2
   | .ret v=>some (.ret v,q.2)
noncomputable def YL (H:AH):AV→Option (List AV×(AH→Bool))
 | .tup xs=>some (xs,fun _=>true)
 | .obj r=>match H[r]? with
  | some (.list xs)=>some (xs,fun H'=>match H'[r]? with | some (.list ys)=>AV.eqbs xs ys | _=>false)
  | _=>none
 | _=>none
mutual
noncomputable def evS (G:Kb) (C:zi):S→Loc→AH→Option (Fl×Loc×AH)
 | .expr e,ρ,H=>(evE G C e ρ H).map fun p=>(.next,ρ,p.2)
 | .set t e,ρ,H=>(evE G C e ρ H).bind fun p=>match t with
  | .name i=>some (.next,zf i p.1 ρ,p.2)
  | .attr o n=>(evE G C o ρ p.2).bind fun q=>(yv q.2 q.1 n p.1).map fun H'=>(.next,ρ,H')
  | .idx o i=>(evE G C o ρ p.2).bind fun q=>(evE G C i ρ q.2).bind fun r=>(yT r.2 q.1 r.1 p.1).map fun H'=>(.next,ρ,H')
  | .names is=>match p.1 with
   | .tup vs=>(y8 is vs ρ).map fun ρ'=>(.next,ρ',p.2)
   | _=>none
 | .augA o n op e,ρ,H=>(evE G C o ρ H).bind fun p=>(yI p.2 p.1 n).bind fun a=>(evE G C e ρ p.2).bind fun q=>match a,q.1 with
  | .int _,.int _=>(qd op a q.1 q.2).bind fun r=>(yv r.2 p.1 n r.1).map fun H'=>(.next,ρ,H')
  | _,_=>none
 | .augN i op e,ρ,H=>(zc i ρ).bind fun a=>(evE G C e ρ H).bind fun q=>match a,q.1 with
  | .int _,.int _=>(qd op a q.1 q.2).map fun r=>(.next,zf i r.1 ρ,r.2)
  | _,_=>none
 | .ite t b o,ρ,H=>(tst G C t ρ H).bind fun p=>match p.1 with
  | true=>y0 G C b ρ p.2
  | false=>y0 G C o ρ p.2
 | .loop i it b,ρ,H=>match it with
  | .range e=>(evE G C e ρ H).bind fun p=>match p.1 with
   | .int n=>if -1000≤n∧n≤1000 then Vt (fun v ρ H=>y0 G C b (zf i v ρ) H) (fun _=>true) (yo n.toNat) ρ p.2 else none
   | _=>none
  | it=>(evE G C it ρ H).bind fun p=>(YL p.2 p.1).bind fun q=>Vt (fun v ρ H=>y0 G C b (zf i v ρ) H) q.2 q.1 ρ p.2
 | .loopK i _ ks b,ρ,H=>Vt (fun v ρ H=>y0 G C b (zf i v ρ) H) (fun _=>true) (ks.map .str) ρ H
 | .while t b,ρ,H=>jT (tst G C t) (y0 G C b) 100 ρ H
 | .ret e,ρ,H=>(evE G C e ρ H).map fun p=>(.ret p.1,ρ,p.2)
 | .delAll o,ρ,H=>(evE G C o ρ H).bind fun p=>match p.1 with
  | .obj r=>match p.2[r]? with
   | some (.list xs)=>if xs.length≤big then some (.next,ρ,p.2.set r (.list [])) else none
   | _=>none
  | _=>none
 | .bad,_,_=>none
noncomputable def y0 (G:Kb) (C:zi):List S→Loc→AH→Option (Fl×Loc×AH)
 | [],ρ,H=>some (.next,ρ,H)
 | s::ss,ρ,H=>(evS G C s ρ H).bind fun p=>match p.1 with
  | .next=>y0 G C ss p.2.1 p.2.2
  | .ret v=>some (.ret v,p.2)
end
noncomputable def yt:Nat→List AV→Loc
 | _,[]=>[]
 | i,v::vs=>(i,v)::yt (i + 1) vs
noncomputable def zkk (E:List S→Loc→AH→Option (Fl×Loc×AH)) (args:List AV) (H:AH) (q:Nat×List S):Option (AV×AH):=match Nat.beq args.length q.1 with
 | false=>none
 | true=>(E q.2 (yt 0 args) H).map fun p=>(match p.1 with | .ret v=>v | .next=>.none,p.2.2)
noncomputable def Kq (G:Kb) (F:Nat→Option (Nat×List S)):Nat→zi
 | 0,_,_,_=>none
 | d + 1,f,args,H=>(F f).bind (zkk (y0 G (Kq G F d)) args H)
theorem ob {α β:Type} {o:Option α} {f:α→Option β} {r:β} {P:Prop} (h:o.bind f=some r) (nx:∀ x,o=some x→f x=some r→P):P:=by
 induction o using Option.casesOn with
 | none=>exact nn h
 | some x=>exact nx x rfl h
theorem om {α β:Type} {o:Option α} {f:α→β} {r:β} {P:β→Prop} (h:o.map f=some r) (nx:∀ x,o=some x→P (f x)):P r:=by
 induction o using Option.casesOn with
 | none=>exact nn h
 | some x=>exact Option.some.inj h ▸ nx x rfl
theorem oe {α:Type} {x r:α} {P:α→Prop} (h:some x=some r) (nx:P x):P r:=Option.some.inj h ▸ nx
theorem og {α:Type} {c:Prop} [Decidable c] {o:Option α} {r:α} {P:Prop} (h:(if c then o else none)=some r) (nx:c→o=some r→P):P:=by
 by_cases q:c
 ·rw [if_pos q] at h; exact nx q h
 ·rw [if_neg q] at h; exact nn h
theorem ot {α:Type} {b:Bool} {o:Option α} {r:α} {P:Prop} (h:(match b with | true=>o | false=>none)=some r) (nx:b=true→o=some r→P):P:=by
 induction b using Bool.casesOn with
 | true=>exact nx rfl h
 | false=>exact nn h
theorem zjp {α:Type} {v:AV} {f:Int→Option α} {r:α} {P:Prop} (h:(match v with | .int i=>f i | _=>none)=some r) (nx:∀ i,v=.int i→f i=some r→P):P:=by
 induction v using AV.casesOn with
 | int i=>exact nx i rfl h
 | _=>exact nn h
theorem zmS {α:Type} {v:AV} {f:List Nat→Option α} {r:α} {P:Prop} (h:(match v with | .str i=>f i | _=>none)=some r) (nx:∀ i,v=.str i→f i=some r→P):P:=by
 induction v using AV.casesOn with
 | str i=>exact nx i rfl h
 | _=>exact nn h
theorem znA {α:Type} {v:AV} {f:List AV→Option α} {r:α} {P:Prop} (h:(match v with | .tup i=>f i | _=>none)=some r) (nx:∀ i,v=.tup i→f i=some r→P):P:=by
 induction v using AV.casesOn with
 | tup i=>exact nx i rfl h
 | _=>exact nn h
theorem zjw {α:Type} {v:AV} {o:Option α} {r:α} {P:Prop} (h:(match v with | .none=>o | _=>none)=some r) (nx:v=.none→o=some r→P):P:=by
 cases v with
 | none=>exact nx rfl h
 | _=>exact nn h
theorem zbg {α:Type} {v:AV} {f:Nat→Option α} {r:α} {P:Prop} (h:(match v with | .obj i=>f i | _=>none)=some r) (nx:∀ i,v=.obj i→f i=some r→P):P:=by
 induction v using AV.casesOn with
 | obj i=>exact nx i rfl h
 | _=>exact nn h
theorem xT {α:Type} {v:Option AO} {f:List AV→Option α} {r:α} {P:Prop} (h:(match v with | some (.list i)=>f i | _=>none)=some r) (nx:∀ i,v=some (.list i)→f i=some r→P):P:=by
 match v,h with
 | some (.list i),h=>exact nx i rfl h
 | some (.dict ..),h=>exact nn h
 | some (.inst ..),h=>exact nn h
 | none,h=>exact nn h
theorem zqW {α:Type} {v:Option AO} {f:Nat→List (Nat×AV)→Option α} {r:α} {P:Prop} (h:(match v with | some (.inst c i)=>f c i | _=>none)=some r) (nx:∀ c i,v=some (.inst c i)→f c i=some r→P):P:=by
 match v,h with
 | some (.inst c i),h=>exact nx c i rfl h
 | some (.dict ..),h=>exact nn h
 | some (.list ..),h=>exact nn h
 | none,h=>exact nn h
theorem tt {a b:Bool} (h:(a&&b)=true):a=true∧b=true:=by
 induction a using Bool.casesOn with
 | true=>exact ⟨rfl,h⟩
 | false=>exact no h
theorem ong {α:Type} {c:Prop} [Decidable c] {o:Option α} {r:α} {P:Prop} (h:(if c then none else o)=some r) (nx:¬ c→o=some r→P):P:=by
 by_cases q:c
 ·rw [if_pos q] at h; exact nn h
 ·rw [if_neg q] at h; exact nx q h
section
variable {α:Type} {v:AV} {o:Option AO} {r:α} {P:Prop}
theorem zY {f:Int→Option α} (h:JJ v f=some r) (nx:∀ i,v=.int i→f i=some r→P):P:=zjp h nx
theorem xf {f:List Nat→Option α} (h:zmw v f=some r) (nx:∀ i,v=.str i→f i=some r→P):P:=zmS h nx
theorem zgv {f:List AV→Option α} (h:zlv v f=some r) (nx:∀ i,v=.tup i→f i=some r→P):P:=znA h nx
theorem KH {f:Nat→Option α} (h:zei v f=some r) (nx:∀ i,v=.obj i→f i=some r→P):P:=zbg h nx
theorem VV {f:List AV→Option α} (h:zhN o f=some r) (nx:∀ xs,o=some (.list xs)→f xs=some r→P):P:=ob h fun x e h=>by
 induction x using AO.casesOn with
 | list xs=>exact nx xs e h
 | _=>exact nn h
theorem ZF {f:Option KK→List (AV×AV)→Option α} (h:zfF o f=some r) (nx:∀ k xs,o=some (.dict k xs)→f k xs=some r→P):P:=ob h fun x e h=>by
 induction x using AO.casesOn with
 | dict k xs=>exact nx k xs e h
 | _=>exact nn h
theorem xy {f:Nat→List (Nat×AV)→Option α} (h:zhV o f=some r) (nx:∀ k xs,o=some (.inst k xs)→f k xs=some r→P):P:=ob h fun x e h=>by
 induction x using AO.casesOn with
 | inst k xs=>exact nx k xs e h
 | _=>exact nn h
theorem zeh {b:Bool} {o:Option Bool} (h:zcn v o=some b) (nx:v=.none→o=some b→P):P:=zjw h nx
end
theorem obB {α:Type} {b:Bool} {x y:Option α} {r:α} {P:Prop} (h:(match b with | true=>x | false=>y)=some r) (t:b=true→x=some r→P) (f:b=false→y=some r→P):P:=by
 induction b using Bool.casesOn with
 | true=>exact t rfl h
 | false=>exact f rfl h
theorem oj {α:Type} {o:Option (Option α)} {r:α} {P:Prop} (h:o.join=some r) (nx:o=some (some r)→P):P:=by
 induction o using Option.casesOn with
 | none=>exact nn h
 | some x=>exact nx (congrArg some h)
theorem VE {α:Type} {o:Option AO} {xs:List AV} {f:List AV→Option α} {r:Option α} (h:o=some (.list xs)) (q:f xs=r):zhN o f=r:=by subst h; exact q
theorem zdm {α:Type} {o:Option AO} {k:Option KK} {xs:List (AV×AV)} {f:Option KK→List (AV×AV)→Option α} {r:Option α} (h:o=some (.dict k xs)) (q:f k xs=r):zfF o f=r:=by subst h; exact q
theorem zcQ {α:Type} {o:Option AO} {k:Nat} {xs:List (Nat×AV)} {f:Nat→List (Nat×AV)→Option α} {r:Option α} (h:o=some (.inst k xs)) (q:f k xs=r):zhV o f=r:=by subst h; exact q
theorem JU {α β:Type} {o:Option α} {x:α} {f:α→Option β} {r:Option β} (h:o=some x) (q:f x=r):o.bind f=r:=by subst h; exact q
theorem zhS {a b:AV} {f:Int→Int→Option (AV×AH)} {r:AV×AH} {P:Prop} (h:iiA a b f=some r) (nx:∀ x y,a=.int x→b=.int y→f x y=some r→P):P :=
 zY h fun x e h=>zY h fun y e' h=>nx x y e e' h
theorem zhE {H:AH} {a:AV} {f:List AV→Option (AV×AH)} {r:AV×AH} {P:Prop} (h:lsA H a f=some r) (nx:∀ q xs,a=.obj q→H[q]?=some (.list xs)→f xs=some r→P):P :=
 KH h fun q e h=>VV h fun xs hq h=>nx q xs e hq h
theorem zp4 {α:Type} {b:Bool} {o:Option α} {r:α} {P:Prop} (h:(if b=true then o else none)=some r) (nx:b=true→o=some r→P):P:=og h nx
theorem Zv {i r:Nat} (e:¬ i=r):Nat.beq i r=false:=Bool.eq_false_iff.mpr fun z=>e (Nat.eq_of_beq_eq_true z)
theorem zaW (i:Nat):Nat.beq i i=true:=Nat.beq_refl i
theorem VY {α:Type} {r j:Nat} {u:α} {l:List (Nat×α)}:zc r ((j,u)::l)=(match Nat.beq j r with | true=>some u | false=>zc r l):=rfl
theorem Vw {α:Type} {i j:Nat} {u v:α} {l:List (Nat×α)}:zf i v ((j,u)::l)=(match Nat.beq j i with | true=>(j,v)::l | false=>(j,u)::zf i v l):=rfl
theorem jo {α:Type} {r:Nat} {x:Nat×α} {l:List (Nat×α)}:zc r (x::l)=(match Nat.beq x.1 r with | true=>some x.2 | false=>zc r l):=rfl
theorem zhf {α:Type} {i:Nat} {v:α} {x:Nat×α} {l:List (Nat×α)}:zf i v (x::l)=(match Nat.beq x.1 i with | true=>(x.1,v)::l | false=>x::zf i v l):=rfl
theorem yJ {k:AV} {x:AV×AV} {l:List (AV×AV)}:ze k (x::l)=(match AV.eqb x.1 k with | true=>some x.2 | false=>ze k l):=rfl
theorem ju {k v:AV} {x:AV×AV} {l:List (AV×AV)}:zB k v (x::l)=(match AV.eqb x.1 k with | true=>(x.1,v)::l | false=>x::zB k v l):=rfl
theorem VH {k j u:AV} {l:List (AV×AV)}:ze k ((j,u)::l)=(match AV.eqb j k with | true=>some u | false=>ze k l):=rfl
theorem zlD {k v j u:AV} {l:List (AV×AV)}:zB k v ((j,u)::l)=(match AV.eqb j k with | true=>(j,v)::l | false=>(j,u)::zB k v l):=rfl
theorem ziz {k:Int} {x:Int×Int} {l:List (Int×Int)}:Ku k (x::l)=if x.1=k then some x.2 else Ku k l:=rfl
theorem Jh {α:Type} {r:Nat} {v:α} {l:List (Nat×α)}:zc r ((r,v)::l)=some v:=by rw [VY,zaW]
theorem yC {α:Type} {i r:Nat} {v:α} {l:List (Nat×α)} (e:¬ i=r):zc r ((i,v)::l)=zc r l:=by rw [VY,Zv e]
theorem zr {α:Type} {r i:Nat} {v:α} {l:List (Nat×α)}:zc r (zf i v l)=if i=r then some v else zc r l:=by
 induction l with
 | nil =>
  show zc r [(i,v)]=_
  by_cases e:i=r
  ·rw [if_pos e,e,Jh]
  ·rw [if_neg e,yC e]
 | cons p l ih =>
  obtain ⟨j,u⟩:=p
  rw [Vw]
  by_cases z:j=i
  ·rw [z,zaW]
   by_cases e:i=r
   ·rw [if_pos e,e]; exact Jh
   ·rw [if_neg e,yC e]; exact (yC e).symm
  ·rw [Zv z]
   by_cases y:j=r
   ·rw [if_neg fun q=>z (y.trans q.symm),y,Jh]; exact Jh.symm
   ·rw [yC y]; exact ih.trans (by rw [yC y])
end Mine
end
section
namespace Mine
open PySem
noncomputable def nth {α:Type} (l:List α):Nat→Option α:=List.rec (fun _=>none) (fun a _ ih n=>Nat.rec (some a) (fun k _=>ih k) n) l
theorem zbs {α:Type}:∀ (l:List α) (n:Nat) {a:α},nth l n=some a→n < l.length
 | [],_,_,h=>nn h
 | _::_,0,_,_=>Nat.succ_pos _
 | _::l,n + 1,_,h=>Nat.succ_lt_succ (zbs l n h)
noncomputable def tri (l:List (Nat×Nat×Nat)) (k n:Nat):Option Nat:=List.rec none (fun a _ ih=>bif Nat.beq a.1 k&&Nat.beq a.2.1 n then some a.2.2 else ih) l
theorem zhJ (l:List (Nat×Nat×Nat)) (k n:Nat) {f:Nat} (h:tri l k n=some f):(k,n,f)∈l:=by
 induction l with
 | nil=>exact nn h
 | cons x l ih =>
  have h:(bif Nat.beq x.1 k&&Nat.beq x.2.1 n then some x.2.2 else tri l k n)=some f:=h
  cases e:(Nat.beq x.1 k&&Nat.beq x.2.1 n) with
  | false=>rw [e] at h; exact .tail _ (ih h)
  | true =>
   rw [e] at h
   have z:=tt e
   rw [← Nat.eq_of_beq_eq_true z.1,← Nat.eq_of_beq_eq_true z.2,← Option.some.inj h]
   exact .head _
noncomputable def zkD:List S :=
 [.while (.bool true) [.bad]]
noncomputable def Yb:List S :=
 [.set (.attr (.loc 0) 0) (.loc 1),
 .set (.attr (.loc 0) 1) (.loc 2)]
noncomputable def Wp:List S :=
 [.set (.attr (.loc 0) 2) (.lst []),
 .set (.attr (.loc 0) 3) (.dic []),
 .set (.attr (.loc 0) 4) (.lst []),
 .set (.attr (.loc 0) 5) (.lst []),
 .loop 1 (.range (.glb 0)) [.set (.name 2) (.tup [.glb 1,.loc 1]),
  .expr (.append (.attr (.loc 0) 2) (.loc 2)),
  .set (.idx (.attr (.loc 0) 3) (.loc 2)) (.loc 1),
  .expr (.append (.attr (.loc 0) 4) (.int 1)),
  .expr (.append (.attr (.loc 0) 5) (.int 0))]]
noncomputable def Yv:List S :=
 [.ite (.bor [.cmp (.loc 1) [.Lt] [.int 0],.cmp (.loc 1) [.GtE] [.len (.attr (.loc 0) 2)]]) [.bad] [],
 .ret (.idx (.attr (.loc 0) 2) (.loc 1))]
noncomputable def Yp:List S :=
 [.set (.name 2) (.get2 (.attr (.loc 0) 3) (.loc 1) (.neg (.int 1))),
 .ite (.cmp (.loc 2) [.GtE] [.int 0]) [.ret (.loc 2)] [],
 .expr (.call 8 [.loc 0,.loc 1]),
 .set (.name 3) (.int 1),
 .set (.name 4) (.int 0),
 .ite (.bor [.cmp (.idx (.loc 1) (.int 0)) [.Eq] [.glb 2],.cmp (.idx (.loc 1) (.int 0)) [.Eq] [.glb 3]]) [.set (.name 4) (.int 1)] [],
 .set (.name 5) (.call 6 [.idx (.loc 1) (.int 0)]),
 .loop 6 (.call 5 [.loc 1]) [.ite (.cmp (.bin .Add (.idx (.attr (.loc 0) 4) (.loc 6)) (.loc 5)) [.Gt] [.loc 3]) [.set (.name 3) (.bin .Add (.idx (.attr (.loc 0) 4) (.loc 6)) (.loc 5))] [],
  .ite (.cmp (.idx (.attr (.loc 0) 5) (.loc 6)) [.Eq] [.int 1]) [.set (.name 4) (.int 1)] []],
 .ite (.cmp (.loc 3) [.Gt] [.glb 4]) [.bad] [],
 .set (.name 7) (.len (.attr (.loc 0) 2)),
 .expr (.append (.attr (.loc 0) 2) (.loc 1)),
 .set (.idx (.attr (.loc 0) 3) (.loc 1)) (.loc 7),
 .expr (.append (.attr (.loc 0) 4) (.loc 3)),
 .expr (.append (.attr (.loc 0) 5) (.loc 4)),
 .ret (.loc 7)]
noncomputable def Z3:List S :=
 [.set (.name 1) (.idx (.loc 0) (.int 0)),
 .ite (.bor [.cmp (.loc 1) [.Eq] [.glb 5],.cmp (.loc 1) [.Eq] [.glb 6]]) [.ret (.idx (.loc 0) (.int 2))] [],
 .ite (.bor [.cmp (.loc 1) [.Eq] [.glb 7],.cmp (.loc 1) [.Eq] [.glb 8],.cmp (.loc 1) [.Eq] [.glb 9],.cmp (.loc 1) [.Eq] [.glb 10],.cmp (.loc 1) [.Eq] [.glb 11]]) [.ret (.tup [.idx (.loc 0) (.int 1)])] [],
 .ite (.cmp (.loc 1) [.Eq] [.glb 12]) [.ret (.bin .Add (.tup [.idx (.loc 0) (.int 1)]) (.idx (.loc 0) (.int 3)))] [],
 .ret (.tup [])]
noncomputable def xK:List S :=
 [.ite (.bor [.cmp (.loc 0) [.Eq] [.glb 5],.cmp (.loc 0) [.Eq] [.glb 6],.cmp (.loc 0) [.Eq] [.glb 7]]) [.ret (.int 1)] [],
 .ret (.int 0)]
noncomputable def qY:List S :=
 [.ite (.bor [.cmp (.loc 0) [.Eq] [.glb 5],.cmp (.loc 0) [.Eq] [.glb 6]]) [.ret (.int 3)] [],
 .ite (.cmp (.loc 0) [.Eq] [.glb 12]) [.ret (.int 4)] [],
 .ret (.int 2)]
noncomputable def WR:List S :=
 [.ite (.bor [.cmp (.len (.loc 1)) [.Eq] [.int 0],.cmp (.idx (.loc 1) (.int 0)) [.LtE] [.glb 1],.cmp (.idx (.loc 1) (.int 0)) [.Gt] [.glb 11]]) [.bad] [],
 .set (.name 2) (.idx (.loc 1) (.int 0)),
 .ite (.cmp (.len (.loc 1)) [.NotEq] [.call 7 [.loc 2]]) [.bad] [],
 .loop 3 (.call 5 [.loc 1]) [.expr (.meth (.loc 0) 6 [.loc 3])],
 .ite (.bor [.cmp (.loc 2) [.Eq] [.glb 5],.cmp (.loc 2) [.Eq] [.glb 6]]) [.expr (.call 9 [.loc 0,.loc 1])] [.ite (.bor [.cmp (.loc 2) [.Eq] [.glb 2],.cmp (.loc 2) [.Eq] [.glb 3]]) [.ite (.cmp (.idx (.loc 1) (.int 1)) [.Lt] [.int 0]) [.bad] []] [.ite (.cmp (.loc 2) [.Eq] [.glb 12]) [.ite (.bor [.bnot (.call 11 [.loc 0,.idx (.loc 1) (.int 1)]),.cmp (.idx (.loc 1) (.int 2)) [.Lt] [.int 0]]) [.bad] [],
    .expr (.call 10 [.loc 0,.idx (.loc 1) (.int 3)])] [.ite (.cmp (.loc 2) [.Eq] [.glb 9]) [.ite (.bnot (.bor [.call 22 [.loc 0,.idx (.loc 1) (.int 1)],.call 23 [.loc 0,.idx (.loc 1) (.int 1)]])) [.bad] []] [.ite (.bnot (.call 11 [.loc 0,.idx (.loc 1) (.int 1)])) [.bad] []]]]]]
noncomputable def ZR:List S :=
 [.ite (.bor [.cmp (.idx (.loc 1) (.int 1)) [.LtE] [.int 0],.cmp (.idx (.loc 1) (.int 1)) [.In] [.glb 13]]) [.bad] [],
 .expr (.call 10 [.loc 0,.idx (.loc 1) (.int 2)])]
noncomputable def jD:List S :=
 [.loop 2 (.loc 1) [.ite (.bnot (.call 11 [.loc 0,.loc 2])) [.bad] []]]
noncomputable def x9:List S :=
 [.ite (.bor [.cmp (.loc 1) [.Eq] [.glb 14],.cmp (.loc 1) [.Eq] [.glb 15]]) [.ret (.bool false)] [],
 .set (.name 2) (.idx (.meth (.loc 0) 6 [.loc 1]) (.int 0)),
 .ret (.bor [.cmp (.loc 2) [.LtE] [.glb 7],.cmp (.loc 2) [.Eq] [.glb 2],.cmp (.loc 2) [.Eq] [.glb 3]])]
noncomputable def jm:List S :=
 [.ite (.cmp (.loc 1) [.In] [.glb 13]) [.ret (.call 14 [.loc 1,.loc 2])] [],
 .ret (.meth (.loc 0) 7 [.tup [.glb 5,.loc 1,.loc 2]])]
noncomputable def qS:List S :=
 [.ite (.cmp (.loc 1) [.In] [.glb 13]) [.ret (.call 14 [.loc 1,.loc 2])] [],
 .ret (.meth (.loc 0) 7 [.tup [.glb 6,.loc 1,.loc 2]])]
noncomputable def zaa:List S :=
 [.ite (.cmp (.len (.loc 1)) [.Gt] [.int 0]) [.bad] [],
 .ret (.idx (.glb 13) (.loc 0))]
noncomputable def qK:List S :=
 [.ret (.meth (.loc 0) 7 [.tup [.glb 7,.loc 1]])]
noncomputable def zb3:List S :=
 [.ret (.meth (.loc 0) 7 [.tup [.glb 2,.loc 1]])]
noncomputable def zaE:List S :=
 [.ret (.meth (.loc 0) 7 [.tup [.glb 3,.loc 1]])]
noncomputable def za8:List S :=
 [.ret (.idx (.meth (.loc 0) 6 [.loc 1]) (.int 0))]
noncomputable def zdP:List S :=
 [.set (.name 2) (.meth (.loc 0) 6 [.loc 1]),
 .ite (.bor [.cmp (.idx (.loc 2) (.int 0)) [.Eq] [.glb 7],.cmp (.idx (.loc 2) (.int 0)) [.Eq] [.glb 8],.cmp (.idx (.loc 2) (.int 0)) [.Eq] [.glb 10],.cmp (.idx (.loc 2) (.int 0)) [.Eq] [.glb 9]]) [.ret (.idx (.loc 2) (.int 1))] [],
 .ret (.neg (.int 1))]
noncomputable def zeR:List S :=
 [.set (.name 2) (.meth (.loc 0) 6 [.loc 1]),
 .ite (.bor [.cmp (.idx (.loc 2) (.int 0)) [.Eq] [.glb 5],.cmp (.idx (.loc 2) (.int 0)) [.Eq] [.glb 6]]) [.ret (.idx (.loc 2) (.int 1))] [],
 .ite (.cmp (.idx (.loc 2) (.int 0)) [.Eq] [.glb 1]) [.ret (.get2 (.glb 16) (.loc 1) (.int 0))] [],
 .ite (.cmp (.idx (.loc 2) (.int 0)) [.Eq] [.glb 7]) [.ret (.glb 17)] [],
 .ret (.int 0)]
noncomputable def zdS:List S :=
 [.set (.name 2) (.meth (.loc 0) 6 [.loc 1]),
 .ite (.bor [.cmp (.idx (.loc 2) (.int 0)) [.Eq] [.glb 5],.cmp (.idx (.loc 2) (.int 0)) [.Eq] [.glb 6]]) [.ret (.idx (.loc 2) (.int 2))] [],
 .ret (.tup [])]
noncomputable def zbp:List S :=
 [.ite (.band [.cmp (.glb 18) [.LtE] [.loc 1],.cmp (.loc 1) [.LtE] [.glb 19]]) [.ret (.bool true)] [],
 .ret (.cmp (.idx (.meth (.loc 0) 6 [.loc 1]) (.int 0)) [.Eq] [.glb 6])]
noncomputable def zfa:List S :=
 [.set (.name 2) (.idx (.meth (.loc 0) 6 [.loc 1]) (.int 0)),
 .ret (.bor [.cmp (.loc 2) [.Eq] [.glb 2],.cmp (.loc 2) [.Eq] [.glb 3]])]
noncomputable def ziA:List S :=
 [.expr (.meth (.loc 0) 6 [.loc 1]),
 .ite (.cmp (.idx (.attr (.loc 0) 5) (.loc 1)) [.Eq] [.int 0]) [.ret (.loc 1)] [],
 .ret (.call 25 [.loc 0,.loc 1,.loc 2,.loc 3,.dic []])]
noncomputable def zbk:List S :=
 [.ite (.cmp (.idx (.attr (.loc 0) 5) (.loc 1)) [.Eq] [.int 0]) [.ret (.loc 1)] [],
 .ite (.cmp (.loc 1) [.In] [.loc 4]) [.ret (.idx (.loc 4) (.loc 1))] [],
 .set (.name 5) (.idx (.attr (.loc 0) 2) (.loc 1)),
 .ite (.cmp (.idx (.loc 5) (.int 0)) [.Eq] [.glb 2]) [.ret (.call 28 [.loc 2,.idx (.loc 5) (.int 1),.loc 1])] [],
 .ite (.cmp (.idx (.loc 5) (.int 0)) [.Eq] [.glb 3]) [.ret (.call 28 [.loc 3,.idx (.loc 5) (.int 1),.loc 1])] [],
 .set (.name 6) (.lst []),
 .loop 7 (.call 5 [.loc 5]) [.expr (.append (.loc 6) (.call 25 [.loc 0,.loc 7,.loc 2,.loc 3,.loc 4]))],
 .set (.idx (.loc 4) (.loc 1)) (.call 26 [.loc 0,.loc 5,.tuple (.loc 6)]),
 .ret (.idx (.loc 4) (.loc 1))]
noncomputable def jB:List S :=
 [.set (.name 3) (.idx (.loc 1) (.int 0)),
 .ite (.bor [.cmp (.loc 3) [.Eq] [.glb 5],.cmp (.loc 3) [.Eq] [.glb 6]]) [.ret (.meth (.loc 0) 7 [.tup [.loc 3,.idx (.loc 1) (.int 1),.loc 2]])] [],
 .ite (.cmp (.loc 3) [.Eq] [.glb 12]) [.bad] [],
 .ite (.cmp (.loc 3) [.Eq] [.glb 9]) [.ret (.call 27 [.loc 0,.idx (.loc 2) (.int 0)])] [],
 .ret (.meth (.loc 0) 7 [.tup [.loc 3,.idx (.loc 2) (.int 0)]])]
noncomputable def zfT:List S :=
 [.ite (.call 23 [.loc 0,.loc 1]) [.ret (.meth (.loc 0) 7 [.tup [.glb 9,.loc 1]])] [],
 .ite (.bnot (.call 22 [.loc 0,.loc 1])) [.ret (.loc 1)] [],
 .ite (.cmp (.call 20 [.loc 0,.loc 1]) [.Eq] [.glb 20]) [.ret (.meth (.loc 0) 7 [.tup [.glb 9,.idx (.call 21 [.loc 0,.loc 1]) (.int 0)]])] [],
 .ret (.meth (.loc 0) 7 [.tup [.glb 9,.loc 1]])]
noncomputable def zcf:List S :=
 [.ite (.cmp (.loc 1) [.Lt] [.len (.loc 0)]) [.ret (.idx (.loc 0) (.loc 1))] [],
 .ret (.loc 2)]
noncomputable def zaI:List S :=
 [.set (.name 0) (.bin .BitAnd (.loc 0) (.bin .Sub (.bin .LShift (.int 1) (.loc 1)) (.int 1))),
 .ite (.bin .RShift (.loc 0) (.bin .Sub (.loc 1) (.int 1))) [.ret (.bin .Sub (.loc 0) (.bin .LShift (.int 1) (.loc 1)))] [],
 .ret (.loc 0)]
noncomputable def zgT:List S :=
 [.ret (.call 29 [.loc 0,.int 32])]
noncomputable def zgB:List S :=
 [.ret (.call 29 [.loc 0,.int 64])]
noncomputable def Ys:List S :=
 [.ite (.cmp (.glb 18) [.LtE,.LtE] [.loc 0,.glb 21]) [.ret (.tup [.glb 22,.int 0])] [],
 .ite (.bor [.cmp (.loc 0) [.Eq] [.glb 23],.cmp (.loc 0) [.Eq] [.glb 24]]) [.ret (.tup [.glb 25,.int 0])] [],
 .ite (.cmp (.loc 0) [.Eq] [.glb 19]) [.ret (.tup [.glb 26,.int 0])] [],
 .ret (.glb 27)]
noncomputable def zgp:List S :=
 [.ite (.bor [.cmp (.loc 0) [.Eq] [.glb 18],.cmp (.loc 0) [.Eq] [.glb 28]]) [.ret (.bin .BitAnd (.loc 1) (.int 255))] [],
 .ite (.bor [.cmp (.loc 0) [.Eq] [.glb 29],.cmp (.loc 0) [.Eq] [.glb 30]]) [.ret (.bin .BitAnd (.loc 1) (.int 65535))] [],
 .ite (.cmp (.loc 0) [.Eq] [.glb 31]) [.ret (.call 29 [.loc 1,.int 8])] [],
 .ite (.cmp (.loc 0) [.Eq] [.glb 32]) [.ret (.call 29 [.loc 1,.int 16])] [],
 .ite (.bor [.cmp (.loc 0) [.Eq] [.glb 23],.cmp (.loc 0) [.Eq] [.glb 24]]) [.ret (.call 31 [.loc 1])] [],
 .ret (.call 30 [.loc 1])]
noncomputable def zbI:List S :=
 [.ite (.bor [.cmp (.idx (.loc 2) (.int 0)) [.Eq] [.glb 22],.cmp (.idx (.loc 2) (.int 0)) [.Eq] [.glb 25],.cmp (.idx (.loc 2) (.int 0)) [.Eq] [.glb 26]]) [.set (.name 3) (.call 35 [.loc 0,.loc 1]),
  .ite (.bor [.cmp (.loc 3) [.Eq] [.glb 22],.cmp (.loc 3) [.Eq] [.glb 25],.cmp (.loc 3) [.Eq] [.glb 26]]) [.ret (.tup [.loc 3,.call 33 [.loc 1,.idx (.loc 2) (.int 1)]])] []] [],
 .ret (.loc 2)]
noncomputable def zeG:List S :=
 [.ite (.cmp (.glb 18) [.LtE,.LtE] [.loc 1,.glb 21]) [.ret (.glb 22)] [],
 .ite (.bor [.cmp (.loc 1) [.Eq] [.glb 23],.cmp (.loc 1) [.Eq] [.glb 24]]) [.ret (.glb 25)] [],
 .ite (.cmp (.loc 1) [.Eq] [.glb 19]) [.ret (.glb 26)] [],
 .ite (.bor [.cmp (.loc 1) [.Eq] [.glb 33],.cmp (.loc 1) [.Eq] [.glb 34],.cmp (.loc 1) [.Eq] [.glb 15]]) [.ret (.glb 35)] [],
 .ret (.call 36 [.idx (.meth (.loc 0) 6 [.loc 1]) (.int 0)])]
noncomputable def jx:List S :=
 [.ite (.bor [.cmp (.loc 0) [.Eq] [.glb 5],.cmp (.loc 0) [.Eq] [.glb 7],.cmp (.loc 0) [.Eq] [.glb 9]]) [.ret (.glb 35)] [],
 .ite (.cmp (.loc 0) [.Eq] [.glb 6]) [.ret (.glb 36)] [],
 .ite (.bor [.cmp (.loc 0) [.Eq] [.glb 8],.cmp (.loc 0) [.Eq] [.glb 10]]) [.ret (.glb 37)] [],
 .ite (.cmp (.loc 0) [.Eq] [.glb 12]) [.ret (.glb 38)] [],
 .ret (.glb 39)]
noncomputable def zkP:List S :=
 [.set (.name 3) (.call 35 [.loc 0,.loc 2]),
 .ite (.cmp (.loc 3) [.Eq] [.glb 36]) [.ret (.band [.cmp (.idx (.loc 1) (.int 0)) [.Eq] [.glb 36],.cmp (.idx (.loc 1) (.int 1)) [.Eq] [.loc 2]])] [],
 .ite (.cmp (.loc 3) [.Eq] [.glb 26]) [.ret (.bor [.cmp (.idx (.loc 1) (.int 0)) [.Eq] [.glb 26],.cmp (.idx (.loc 1) (.int 0)) [.Eq] [.glb 22],.cmp (.idx (.loc 1) (.int 0)) [.Eq] [.glb 38]])] [],
 .ite (.band [.cmp (.loc 3) [.Eq] [.glb 22],.cmp (.idx (.loc 1) (.int 0)) [.Eq] [.glb 26]]) [.ret (.bool true)] [],
 .ite (.band [.cmp (.loc 3) [.Eq] [.glb 37],.cmp (.loc 1) [.Eq] [.glb 27]]) [.ret (.bool true)] [],
 .ret (.band [.cmp (.loc 3) [.NotEq] [.glb 39],.cmp (.idx (.loc 1) (.int 0)) [.Eq] [.loc 3]])]
noncomputable def zbM:List S :=
 [.loop 2 (.loc 1) [.ite (.bor [.cmp (.idx (.loc 0) (.int 0)) [.NotEq] [.glb 36],.cmp (.loc 2) [.Lt] [.int 0],.cmp (.loc 2) [.GtE] [.len (.idx (.loc 0) (.int 2))]]) [.ret .none] [],
  .set (.name 0) (.idx (.idx (.loc 0) (.int 2)) (.loc 2))],
 .ret (.loc 0)]
noncomputable def zbe:List S :=
 [.set (.name 3) (.lst []),
 .set (.name 4) (.loc 0),
 .loop 5 (.loc 1) [.expr (.append (.loc 3) (.tup [.loc 4,.loc 5])),
  .set (.name 4) (.idx (.idx (.loc 4) (.int 2)) (.loc 5))],
 .set (.name 6) (.bin .Sub (.len (.loc 3)) (.int 1)),
 .while (.cmp (.loc 6) [.GtE] [.int 0]) [.set (.names [7,5]) (.idx (.loc 3) (.loc 6)),
  .bad,
  .augN 6 .Sub (.int 1)],
 .ret (.loc 2)]
noncomputable def zd5:List S :=
 [.ite (.cmp (.idx (.loc 0) (.int 0)) [.Eq] [.glb 35]) [.ite (.cmp (.idx (.loc 0) (.int 1)) [.Eq] [.int 0]) [.ret (.lst [])] [],
  .ret (.lst [.idx (.loc 0) (.int 1)])] [],
 .ite (.cmp (.idx (.loc 0) (.int 0)) [.NotEq] [.glb 36]) [.ret (.lst [])] [],
 .set (.name 1) (.lst []),
 .set (.name 2) (.lst [.loc 0]),
 .while (.cmp (.len (.loc 2)) [.Gt] [.int 0]) [.set (.name 3) (.pop (.loc 2)),
  .ite (.cmp (.idx (.loc 3) (.int 0)) [.Eq] [.glb 36]) [.set (.name 4) (.bin .Sub (.len (.idx (.loc 3) (.int 2))) (.int 1)),
   .while (.cmp (.loc 4) [.GtE] [.int 0]) [.expr (.append (.loc 2) (.idx (.idx (.loc 3) (.int 2)) (.loc 4))),
    .augN 4 .Sub (.int 1)]] [.ite (.band [.cmp (.idx (.loc 3) (.int 0)) [.Eq] [.glb 35],.cmp (.idx (.loc 3) (.int 1)) [.NotEq] [.int 0]]) [.expr (.append (.loc 1) (.idx (.loc 3) (.int 1)))] []]],
 .ret (.loc 1)]
noncomputable def zaP:List S :=
 [.ite (.cmp (.bin .Add (.glb 40) (.loc 0)) [.Lt] [.glb 41]) [.ret (.glb 41)] [],
 .ret (.bin .Add (.glb 40) (.loc 0))]
noncomputable def jP:List S :=
 [.set (.attr (.loc 0) 8) (.loc 1),
 .set (.attr (.loc 0) 9) (.loc 2),
 .set (.attr (.loc 0) 10) (.loc 3),
 .set (.attr (.loc 0) 11) (.int 0),
 .set (.attr (.loc 0) 12) (.call 41 [.len (.loc 3)]),
 .set (.attr (.loc 0) 13) (.int 0)]
noncomputable def xM:List S :=
 [.set (.attr (.loc 0) 14) (.lst []),
 .set (.attr (.loc 0) 1) (.dic []),
 .set (.attr (.loc 0) 15) (.glb 42),
 .set (.attr (.loc 0) 16) (.loc 1),
 .set (.attr (.loc 0) 17) (.dic []),
 .set (.attr (.loc 0) 18) (.loc 2),
 .set (.attr (.loc 0) 19) (.int 0),
 .set (.attr (.loc 0) 20) (.bin .Add (.bin .FloorDiv (.loc 1) (.int 4)) (.int 1)),
 .set (.attr (.loc 0) 21) (.lst []),
 .set (.attr (.loc 0) 22) (.lst []),
 .set (.attr (.loc 0) 23) (.int 0),
 .set (.attr (.loc 0) 24) (.int 0)]
noncomputable def jb:List S :=
 [.set (.name 3) (.new 3 [.attr (.loc 0) 15,.loc 1,.loc 2]),
 .augA (.loc 0) 24 .Add (.int 1),
 .set (.attr (.loc 3) 13) (.attr (.loc 0) 24),
 .expr (.append (.attr (.loc 0) 14) (.loc 3)),
 .set (.idx (.attr (.loc 0) 1) (.attr (.loc 3) 8)) (.loc 3),
 .augA (.loc 0) 15 .Add (.attr (.loc 3) 12),
 .augA (.loc 0) 19 .Add (.attr (.loc 3) 12),
 .ret (.loc 3)]
noncomputable def j9:List S :=
 [.set (.name 2) (.get1 (.attr (.loc 0) 1) (.loc 1)),
 .ite (.cmp (.loc 2) [.IsNot] [.none]) [.ret (.loc 2)] [],
 .set (.name 3) (.int 0),
 .set (.name 4) (.len (.attr (.loc 0) 14)),
 .while (.cmp (.loc 3) [.Lt] [.loc 4]) [.set (.name 5) (.bin .FloorDiv (.bin .Add (.loc 3) (.loc 4)) (.int 2)),
  .ite (.cmp (.attr (.idx (.attr (.loc 0) 14) (.loc 5)) 8) [.LtE] [.loc 1]) [.set (.name 3) (.bin .Add (.loc 5) (.int 1))] [.set (.name 4) (.loc 5)]],
 .ite (.cmp (.loc 3) [.Eq] [.int 0]) [.ret .none] [],
 .set (.name 6) (.idx (.attr (.loc 0) 14) (.bin .Sub (.loc 3) (.int 1))),
 .ite (.cmp (.loc 1) [.Lt] [.bin .Add (.attr (.loc 6) 8) (.attr (.loc 6) 12)]) [.ret (.loc 6)] [],
 .ret .none]
noncomputable def xe:List S :=
 [.ret (.bin .Add (.bin .Add (.attr (.loc 0) 8) (.glb 40)) (.loc 1))]
noncomputable def zdz:List S :=
 [.set (.name 2) (.bin .Sub (.bin .Sub (.loc 1) (.attr (.loc 0) 8)) (.glb 40)),
 .ite (.cmp (.int 0) [.LtE,.Lt] [.loc 2,.len (.attr (.loc 0) 10)]) [.ret (.loc 2)] [],
 .ret (.neg (.int 1))]
noncomputable def zaD:List S :=
 [.set (.name 2) (.call 45 [.loc 0,.loc 1]),
 .ite (.cmp (.loc 2) [.Is] [.none]) [.ret .none] [],
 .set (.name 3) (.call 47 [.loc 2,.loc 1]),
 .ite (.cmp (.loc 3) [.Lt] [.int 0]) [.ret .none] [],
 .ret (.idx (.attr (.loc 2) 10) (.loc 3))]
noncomputable def V2:List S :=
 [.ite (.cmp (.idx (.loc 0) (.int 0)) [.Eq] [.glb 35]) [.ret (.cmp (.idx (.loc 0) (.int 1)) [.NotEq] [.int 0])] [],
 .loop 1 (.call 40 [.loc 0]) [.ite (.cmp (.loc 1) [.NotEq] [.int 0]) [.ret (.bool true)] []],
 .ret (.bool false)]
noncomputable def Z4:List S :=
 [.ret (.bin .RShift (.loc 1) (.attr (.loc 0) 18))]
noncomputable def qH:List S :=
 [.set (.idx (.attr (.loc 1) 10) (.loc 2)) (.loc 3),
 .ite (.band [.cmp (.attr (.loc 1) 11) [.Gt] [.int 0],.call 49 [.loc 3]]) [.set (.idx (.attr (.loc 0) 17) (.call 50 [.loc 0,.call 46 [.loc 1,.loc 2]])) (.int 1)] []]
noncomputable def qR:List S :=
 [.set (.name 4) (.call 45 [.loc 0,.loc 1]),
 .ite (.cmp (.loc 4) [.Is] [.none]) [.ret (.bool false)] [],
 .set (.name 5) (.call 47 [.loc 4,.loc 1]),
 .ite (.cmp (.loc 5) [.Lt] [.int 0]) [.ret (.bool false)] [],
 .ite (.cmp (.call 38 [.idx (.attr (.loc 4) 10) (.loc 5),.loc 2]) [.Is] [.none]) [.ret (.bool false)] [],
 .expr (.call 51 [.loc 0,.loc 4,.loc 5,.call 39 [.idx (.attr (.loc 4) 10) (.loc 5),.loc 2,.loc 3]]),
 .ret (.bool true)]
noncomputable def WG:List S :=
 [.set (.attr (.loc 0) 25) (.loc 1),
 .set (.attr (.loc 0) 26) (.loc 2),
 .set (.attr (.loc 0) 27) (.loc 3)]
noncomputable def jK:List S :=
 [.ret (.tup [.glb 43,.bin .Add (.bin .Add (.attr (.loc 0) 8) (.glb 40)) (.loc 1),.tup []])]
noncomputable def zdG:List S :=
 [.ite (.cmp (.idx (.loc 0) (.int 0)) [.Eq] [.glb 43]) [.ret (.idx (.loc 0) (.int 2))] [],
 .ret (.idx (.loc 0) (.int 3))]
noncomputable def zbr:List S :=
 [.ite (.cmp (.idx (.loc 1) (.int 0)) [.Eq] [.glb 44]) [.ret (.get1 (.attr (.loc 0) 27) (.idx (.loc 1) (.int 1)))] [],
 .set (.name 2) (.get1 (.attr (.loc 0) 26) (.idx (.loc 1) (.int 1))),
 .ite (.cmp (.loc 2) [.Is] [.none]) [.ret .none] [],
 .ite (.cmp (.idx (.loc 1) (.int 0)) [.Eq] [.glb 45]) [.ret (.attr (.loc 2) 28)] [],
 .ite (.cmp (.idx (.loc 1) (.int 2)) [.Eq] [.glb 46]) [.ret (.attr (.loc 2) 29)] [],
 .ret (.attr (.loc 2) 30)]
noncomputable def zcm:List S :=
 [.ite (.band [.cmp (.idx (.loc 0) (.int 0)) [.Eq] [.glb 47],.cmp (.idx (.loc 0) (.int 2)) [.Eq] [.glb 46]]) [.ret (.int 0)] [],
 .ret (.idx (.loc 0) (.int 2))]
noncomputable def jO:List S :=
 [.ite (.cmp (.idx (.loc 1) (.int 0)) [.Eq] [.glb 43]) [.ret (.call 48 [.attr (.loc 0) 25,.idx (.loc 1) (.int 1)])] [],
 .set (.name 2) (.call 56 [.loc 0,.loc 1]),
 .ite (.cmp (.loc 2) [.Is] [.none]) [.ret .none] [],
 .set (.name 3) (.call 57 [.loc 1]),
 .ite (.bor [.cmp (.loc 3) [.Lt] [.int 0],.cmp (.loc 3) [.GtE] [.len (.loc 2)]]) [.ret .none] [],
 .ret (.idx (.loc 2) (.loc 3))]
noncomputable def qZ:List S :=
 [.set (.name 2) (.call 58 [.loc 0,.loc 1]),
 .ite (.cmp (.loc 2) [.Is] [.none]) [.ret .none] [],
 .ret (.call 38 [.loc 2,.call 55 [.loc 1]])]
noncomputable def ZL:List S :=
 [.set (.name 3) (.call 58 [.loc 0,.loc 1]),
 .ite (.bor [.cmp (.loc 3) [.Is] [.none],.cmp (.call 38 [.loc 3,.call 55 [.loc 1]]) [.Is] [.none]]) [.ret (.bool false)] [],
 .ite (.cmp (.idx (.loc 1) (.int 0)) [.Eq] [.glb 43]) [.ret (.call 52 [.attr (.loc 0) 25,.idx (.loc 1) (.int 1),.idx (.loc 1) (.int 2),.loc 2])] [],
 .set (.name 4) (.call 56 [.loc 0,.loc 1]),
 .set (.idx (.loc 4) (.call 57 [.loc 1])) (.call 39 [.loc 3,.idx (.loc 1) (.int 3),.loc 2]),
 .ret (.bool true)]
noncomputable def jv:List S :=
 [.set (.attr (.loc 0) 31) (.loc 1),
 .set (.attr (.loc 0) 32) (.loc 2),
 .set (.attr (.loc 0) 33) (.loc 3),
 .set (.attr (.loc 0) 34) (.int 0),
 .set (.attr (.loc 0) 28) (.loc 4),
 .set (.attr (.loc 0) 30) (.lst []),
 .set (.attr (.loc 0) 35) (.lst []),
 .set (.attr (.loc 0) 36) (.lst []),
 .set (.attr (.loc 0) 37) (.lst []),
 .set (.attr (.loc 0) 38) (.lst []),
 .set (.attr (.loc 0) 29) (.lst []),
 .set (.attr (.loc 0) 39) (.loc 5),
 .set (.attr (.loc 0) 40) (.loc 1),
 .set (.attr (.loc 0) 41) (.int 0),
 .set (.attr (.loc 0) 42) (.neg (.int 1))]
noncomputable def zff:List S :=
 [.ret (.glb 48)]
noncomputable def ZH:List S :=
 [.ite (.cmp (.attr (.loc 1) 43) [.Eq] [.glb 49]) [.set (.attr (.loc 1) 44) (.lst [.tup [.glb 35,.loc 2]]),
  .set (.attr (.loc 1) 43) (.glb 50)] []]
noncomputable def Y1:List S :=
 [.expr (.call 0 [.int 0])]
noncomputable def KJ:List S :=
 [.expr (.call 0 [.int 1])]
noncomputable def Vj:List S :=
 [.expr (.call 0 [.int 2])]
noncomputable def WD:List S :=
 [.expr (.call 0 [.int 3])]
noncomputable def ZA:List S :=
 [.expr (.call 0 [.int 4])]
noncomputable def YO:List S :=
 [.expr (.call 0 [.int 5])]
noncomputable def Wv:List S :=
 [.expr (.call 0 [.int 6])]
noncomputable def WO:List S :=
 [.expr (.call 0 [.int 7])]
noncomputable def Yo:List S :=
 [.expr (.meth (.loc 1) 45 [.glb 51])]
noncomputable def Yt:List S :=
 [.expr (.meth (.loc 1) 45 [.glb 51])]
noncomputable def qU:List S :=
 [.set (.attr (.loc 0) 46) (.loc 1),
 .set (.attr (.loc 0) 47) (.attr (.loc 1) 47),
 .set (.attr (.loc 0) 25) (.loc 2),
 .set (.attr (.loc 0) 48) (.dic []),
 .set (.attr (.loc 0) 2) (.dic []),
 .set (.attr (.loc 0) 49) (.dic []),
 .set (.attr (.loc 0) 50) (.dic []),
 .set (.attr (.loc 0) 51) (.dic []),
 .set (.attr (.loc 0) 21) (.dic []),
 .set (.attr (.loc 0) 26) (.lst []),
 .set (.attr (.loc 0) 52) (.dic []),
 .set (.attr (.loc 0) 13) (.int 0),
 .set (.attr (.loc 0) 43) (.glb 49),
 .set (.attr (.loc 0) 53) (.lst []),
 .set (.attr (.loc 0) 54) (.lst []),
 .set (.attr (.loc 0) 27) (.dic []),
 .set (.attr (.loc 0) 55) (.dic []),
 .set (.attr (.loc 0) 56) (.dic []),
 .set (.attr (.loc 0) 57) (.lst []),
 .set (.attr (.loc 0) 44) (.lst []),
 .set (.attr (.loc 0) 58) .none,
 .set (.attr (.loc 0) 59) .none,
 .set (.attr (.loc 0) 60) (.int 60),
 .set (.attr (.loc 0) 61) (.dic []),
 .set (.attr (.loc 0) 62) (.lst []),
 .set (.attr (.loc 0) 63) (.lst []),
 .set (.attr (.loc 0) 64) (.str []),
 .set (.attr (.loc 0) 65) (.new 5 [.loc 2,.attr (.loc 0) 52,.attr (.loc 0) 27]),
 .set (.attr (.loc 0) 66) (.new 8 []),
 .set (.attr (.loc 0) 67) (.new 9 []),
 .set (.attr (.loc 0) 68) (.new 10 [])]
noncomputable def qW:List S :=
 [.ret (.bor [.cmp (.loc 1) [.Eq] [.loc 2],.cmp (.loc 2) [.Eq] [.glb 33],.cmp (.tup [.loc 1,.loc 2]) [.In] [.attr (.loc 0) 48]])]
noncomputable def qX:List S :=
 [.expr (.call 0 [.int 8])]
noncomputable def W5:List S :=
 [.expr (.call 0 [.int 9])]
noncomputable def W8:List S :=
 [.ret (.idx (.call 90 [.loc 0,.loc 1]) (.int 1))]
noncomputable def Wi:List S :=
 [.expr (.call 0 [.int 10])]
noncomputable def VB:List S :=
 [.expr (.call 0 [.int 11])]
noncomputable def Zp:List S :=
 [.expr (.call 0 [.int 12])]
noncomputable def Yu:List S :=
 [.ret (.call 91 [.loc 0,.loc 1])]
noncomputable def ZY:List S :=
 [.ret (.get2 (.attr (.loc 0) 51) (.loc 1) (.loc 1))]
noncomputable def Wj:List S :=
 [.expr (.call 0 [.int 13])]
noncomputable def ZU:List S :=
 [.ret (.call 44 [.attr (.loc 0) 25,.loc 1,.call 97 [.loc 0,.loc 1,.loc 2]])]
noncomputable def ZN:List S :=
 [.ret (.call 94 [.loc 0,.loc 1])]
noncomputable def zab:List S :=
 [.ret (.call 95 [.loc 0,.loc 1])]
noncomputable def VJ:List S :=
 [.ret (.call 89 [.loc 0,.loc 1])]
noncomputable def ZM:List S :=
 [.ite (.cmp (.attr (.loc 0) 43) [.Eq] [.glb 49]) [.expr (.append (.attr (.loc 0) 54) (.loc 1))] [],
 .ret (.glb 52)]
noncomputable def zcg:List S :=
 [.set (.name 2) (.get1 (.attr (.loc 0) 2) (.loc 1)),
 .ite (.cmp (.loc 2) [.Is] [.none]) [.ret (.tup [.dic [],.tup [],.tup []])] [],
 .ret (.loc 2)]
noncomputable def Zb:List S :=
 [.set (.name 2) (.get1 (.attr (.loc 0) 50) (.loc 1)),
 .ite (.cmp (.loc 2) [.IsNot] [.none]) [.ret (.loc 2)] [],
 .ret (.call 32 [.meth (.loc 0) 69 [.loc 1]])]
noncomputable def zbm:List S :=
 [.ret (.call 21 [.attr (.loc 0) 47,.idx (.attr (.loc 1) 32) (.int 0)])]
noncomputable def ZW:List S :=
 [.ret (.call 24 [.attr (.loc 0) 47,.loc 2,.call 92 [.loc 0,.loc 1],.idx (.attr (.loc 1) 32) (.int 2)])]
noncomputable def jL:List S :=
 [.ite (.cmp (.attr (.loc 0) 43) [.Eq] [.glb 49]) [.set (.name 2) (.int 0),
  .set (.name 3) (.neg (.int 1)),
  .ite (.cmp (.len (.attr (.loc 0) 26)) [.Gt] [.int 0]) [.set (.name 4) (.idx (.attr (.loc 0) 26) (.bin .Sub (.len (.attr (.loc 0) 26)) (.int 1))),
   .set (.name 2) (.idx (.attr (.loc 4) 32) (.int 1)),
   .set (.name 3) (.attr (.loc 4) 34)] [],
  .expr (.append (.attr (.loc 0) 53) (.tup [.loc 1,.loc 2,.loc 3])),
  .set (.attr (.loc 0) 43) (.glb 53)] [],
 .ret (.glb 52)]
noncomputable def xB:List S :=
 [.ite (.cmp (.len (.attr (.loc 1) 35)) [.Eq] [.int 0]) [.expr (.meth (.loc 0) 45 [.glb 54]),
  .ret (.glb 55)] [],
 .ret (.pop (.attr (.loc 1) 35))]
noncomputable def zeX:List S :=
 [.set (.name 3) (.meth (.loc 0) 69 [.loc 1]),
 .ite (.bnot (.call 37 [.attr (.loc 0) 47,.loc 2,.loc 3])) [.expr (.meth (.loc 0) 45 [.glb 56]),
  .ret (.glb 55)] [],
 .ret (.call 34 [.attr (.loc 0) 47,.loc 3,.loc 2])]
noncomputable def ZZ:List S :=
 [.ite (.cmp (.loc 1) [.Eq] [.glb 34]) [.ret (.lst [.tup [.glb 57,.str []]])] [],
 .ite (.call 22 [.attr (.loc 0) 47,.loc 1]) [.ret (.lst [.meth (.loc 0) 70 [.loc 1]])] [],
 .set (.name 3) (.call 18 [.attr (.loc 0) 47,.loc 1]),
 .ite (.cmp (.loc 3) [.Eq] [.glb 7]) [.ret (.bin .Mult (.lst [.meth (.loc 0) 70 [.call 19 [.attr (.loc 0) 47,.loc 1]]]) (.loc 2))] [],
 .set (.name 4) (.lst []),
 .ite (.cmp (.loc 3) [.Eq] [.glb 5]) [.loop 5 (.meth (.loc 0) 71 [.loc 1]) [.expr (.append (.loc 4) (.meth (.loc 0) 70 [.loc 5]))]] [],
 .while (.cmp (.len (.loc 4)) [.Lt] [.loc 2]) [.expr (.append (.loc 4) (.glb 27))],
 .ret (.loc 4)]
noncomputable def jY:List S :=
 [.set (.attr (.loc 0) 47) (.new 2 []),
 .set (.attr (.loc 0) 72) (.lst [.none]),
 .set (.attr (.loc 0) 73) (.lst [.none]),
 .set (.attr (.loc 0) 74) (.lst [.none]),
 .set (.attr (.loc 0) 75) (.dic []),
 .set (.attr (.loc 0) 76) (.lst []),
 .set (.attr (.loc 0) 77) (.int 0)]
noncomputable def jk:List S :=
 [.ret (.meth (.loc 0) 78 [.glb 58,.glb 59])]
noncomputable def zbY:List S :=
 [.ite (.cmp (.idx (.loc 1) (.int 0)) [.NotEq] [.glb 35]) [.expr (.meth (.loc 0) 45 [.glb 56]),
  .ret .none] [],
 .ite (.cmp (.idx (.loc 1) (.int 1)) [.Eq] [.int 0]) [.expr (.call 99 [.loc 0]),
  .ret .none] [],
 .set (.name 2) (.get1 (.attr (.attr (.loc 0) 25) 1) (.idx (.loc 1) (.int 1))),
 .ite (.cmp (.loc 2) [.Is] [.none]) [.expr (.meth (.loc 0) 45 [.glb 60])] [],
 .ret (.loc 2)]
noncomputable def jf:List S :=
 [.ite (.bor [.cmp (.get2 (.glb 61) (.loc 1) (.int 0)) [.NotEq] [.get2 (.glb 61) (.loc 2) (.int 0)],.cmp (.call 35 [.attr (.loc 0) 47,.loc 1]) [.NotEq] [.call 35 [.attr (.loc 0) 47,.loc 2]]]) [.ret (.bool false)] [],
 .ret (.bor [.cmp (.loc 1) [.Eq] [.loc 2],.cmp (.call 35 [.attr (.loc 0) 47,.loc 1]) [.NotEq] [.glb 36]])]
noncomputable def zcb:List S :=
 [.set (.name 2) (.call 100 [.loc 0,.loc 1]),
 .ite (.cmp (.loc 2) [.Is] [.none]) [.ret .none] [],
 .ite (.cmp (.call 18 [.attr (.loc 0) 47,.attr (.loc 2) 9]) [.NotEq] [.glb 7]) [.expr (.meth (.loc 0) 45 [.glb 60]),
  .ret .none] [],
 .ret (.loc 2)]
noncomputable def jn:List S :=
 [.ite (.band [.cmp (.idx (.loc 2) (.int 0)) [.NotEq] [.glb 22],.cmp (.idx (.loc 2) (.int 0)) [.NotEq] [.glb 26]]) [.expr (.meth (.loc 0) 45 [.glb 56]),
  .ret .none] [],
 .set (.name 3) (.call 102 [.loc 0,.loc 1]),
 .ite (.cmp (.loc 3) [.Is] [.none]) [.ret .none] [],
 .ite (.bor [.cmp (.idx (.loc 2) (.int 1)) [.Lt] [.int 0],.cmp (.idx (.loc 2) (.int 1)) [.GtE] [.len (.attr (.loc 3) 10)]]) [.expr (.meth (.loc 0) 78 [.glb 62,.glb 63]),
  .ret .none] [],
 .ret (.loc 3)]
noncomputable def WI:List S :=
 [.set (.name 4) (.meth (.loc 1) 79 [.loc 2]),
 .ite (.band [.cmp (.idx (.loc 4) (.int 0)) [.NotEq] [.glb 22],.cmp (.idx (.loc 4) (.int 0)) [.NotEq] [.glb 26]]) [.ret (.meth (.loc 1) 45 [.glb 56])] [],
 .ite (.cmp (.idx (.loc 4) (.int 1)) [.Lt] [.int 0]) [.ret (.meth (.loc 1) 78 [.glb 64,.glb 65])] [],
 .ite (.cmp (.idx (.loc 4) (.int 1)) [.Gt] [.glb 66]) [.ret (.meth (.loc 1) 78 [.glb 67,.glb 68])] [],
 .set (.name 5) (.meth (.loc 1) 80 [.call 15 [.attr (.loc 1) 47,.call 93 [.loc 1,.loc 2,.loc 3]],.idx (.loc 4) (.int 1)]),
 .expr (.append (.attr (.loc 2) 35) (.tup [.glb 35,.attr (.loc 5) 8])),
 .ret (.glb 48)]
noncomputable def YZ:List S :=
 [.set (.name 4) (.call 102 [.loc 1,.meth (.loc 1) 79 [.loc 2]]),
 .ite (.cmp (.loc 4) [.Is] [.none]) [.ret (.glb 52)] [],
 .expr (.append (.attr (.loc 2) 35) (.tup [.glb 26,.len (.attr (.loc 4) 10)])),
 .ret (.glb 48)]
noncomputable def Vh:List S :=
 [.set (.name 4) (.meth (.loc 1) 79 [.loc 2]),
 .set (.name 5) (.call 103 [.loc 1,.meth (.loc 1) 79 [.loc 2],.loc 4]),
 .ite (.cmp (.loc 5) [.Is] [.none]) [.ret (.glb 52)] [],
 .set (.name 6) (.meth (.loc 1) 69 [.call 93 [.loc 1,.loc 2,.loc 3]]),
 .ite (.bnot (.call 101 [.loc 1,.meth (.loc 1) 69 [.call 19 [.attr (.loc 1) 47,.attr (.loc 5) 9]],.loc 6])) [.ret (.meth (.loc 1) 45 [.glb 60])] [],
 .expr (.append (.attr (.loc 2) 35) (.call 34 [.attr (.loc 1) 47,.loc 6,.idx (.attr (.loc 5) 10) (.idx (.loc 4) (.int 1))])),
 .ret (.glb 48)]
noncomputable def jy:List S :=
 [.ret (.bor [.cmp (.idx (.loc 1) (.int 1)) [.Eq] [.int 0],.call 111 [.loc 0,.loc 1,.loc 2]])]
noncomputable def KL:List S :=
 [.set (.name 4) (.meth (.loc 1) 79 [.loc 2]),
 .set (.name 5) (.meth (.loc 1) 79 [.loc 2]),
 .set (.name 6) (.call 103 [.loc 1,.meth (.loc 1) 79 [.loc 2],.loc 5]),
 .ite (.cmp (.loc 6) [.Is] [.none]) [.ret (.glb 52)] [],
 .set (.name 7) (.call 19 [.attr (.loc 1) 47,.attr (.loc 6) 9]),
 .ite (.bnot (.call 101 [.loc 1,.meth (.loc 1) 69 [.loc 7],.meth (.loc 1) 69 [.call 93 [.loc 1,.loc 2,.loc 3]]])) [.ret (.meth (.loc 1) 45 [.glb 60])] [],
 .set (.name 4) (.call 96 [.loc 1,.loc 7,.loc 4]),
 .ite (.cmp (.loc 4) [.Eq] [.glb 55]) [.ret (.glb 52)] [],
 .ite (.band [.bnot (.call 22 [.attr (.loc 1) 47,.loc 7]),.bnot (.call 107 [.loc 1,.loc 4,.loc 7])]) [.ret (.meth (.loc 1) 78 [.glb 69,.glb 70])] [],
 .expr (.call 51 [.attr (.loc 1) 25,.loc 6,.idx (.loc 5) (.int 1),.loc 4]),
 .ret (.glb 48)]
noncomputable def J0:List S :=
 [.set (.name 4) (.cmp (.attr (.loc 2) 42) [.Eq] [.glb 71]),
 .set (.attr (.loc 2) 42) (.neg (.int 1)),
 .set (.name 5) (.meth (.loc 1) 79 [.loc 2]),
 .set (.name 6) (.call 103 [.loc 1,.meth (.loc 1) 79 [.loc 2],.loc 5]),
 .ite (.cmp (.loc 6) [.Is] [.none]) [.ret (.glb 52)] [],
 .set (.name 7) (.call 93 [.loc 1,.loc 2,.loc 3]),
 .ite (.band [.bnot (.loc 4),.bnot (.call 22 [.attr (.loc 1) 47,.loc 7]),.cmp (.call 19 [.attr (.loc 1) 47,.attr (.loc 6) 9]) [.NotEq] [.loc 7]]) [.ret (.meth (.loc 1) 78 [.glb 69,.glb 70])] [],
 .expr (.append (.attr (.loc 2) 35) (.tup [.glb 37,.call 54 [.loc 6,.idx (.loc 5) (.int 1)]])),
 .ret (.glb 48)]
noncomputable def Wr:List S :=
 [.set (.attr (.loc 2) 42) (.glb 71),
 .ret (.glb 48)]
noncomputable def ziP:List S :=
 [.set (.name 3) (.get1 (.attr (.attr (.loc 0) 25) 1) (.idx (.loc 1) (.int 1))),
 .ret (.band [.cmp (.loc 3) [.IsNot] [.none],.meth (.loc 0) 81 [.attr (.loc 3) 9,.loc 2]])]
noncomputable def ZX:List S :=
 [.ret (.dic [.str [98,111,111,108],.int 1,.str [99,104,97,114],.int 2,.str [105,49],.int 3,.str [117,49],.int 4,.str [105,50],.int 5,.str [117,50],.int 6,.str [105,52],.int 7,.str [117,52],.int 8,.str [105,56],.int 9,.str [117,56],.int 10,.str [110,105,110,116],.int 11])]
noncomputable def jh:List S :=
 [.ret (.dic [.str [98],.str [97],.str [99],.str [98],.str [97],.str [111],.str [116],.str [111],.str [105],.str [111],.str [105,52],.str [117,52],.str [117,52],.str [105,52],.str [117,49],.str [105,49],.str [105,49],.str [117,49],.str [98,111,111,108],.str [105,49],.str [101],.str [105,50],.str [105,50],.str [117,50],.str [117,50],.str [99,104,97,114],.str [99,104,97,114],.str [101],.str [105,56],.str [117,56],.str [117,56],.str [105,56],.str [115],.str [115,50],.str [115,50],.str [115],.str [110,105,110,116],.str [105,52],.str [97,91,93],.str [111],.str [117,52,91,93],.str [111],.str [111],.str [105]])]
noncomputable def xo:List S :=
 [.ret (.dic [.str [98],.tup [.str [97],.str [105]],.str [99],.tup [.str [98],.str [97],.str [105]]])]
noncomputable def za1:List S :=
 [.ret (.dic [.str [117,49],.str [105,49],.str [117,50],.str [105,50],.str [117,52],.str [105,52],.str [117,56],.str [105,56],.str [101],.str [105,50]])]
noncomputable def jG:List S :=
 [.ret (.dic [.str [98,111,111,108],.int 1,.str [105,49],.int 1,.str [117,49],.int 1,.str [99,104,97,114],.int 2,.str [105,50],.int 2,.str [117,50],.int 2,.str [101],.int 2,.str [105,52],.int 4,.str [117,52],.int 4,.str [105,56],.int 8,.str [117,56],.int 8,.str [110,105,110,116],.int 5,.str [115],.int 9,.str [115,50],.int 9])]
noncomputable def jt:List S :=
 [.ret (.dic [.str [98,111,111,108],.tup [.int 0,.int 256],.str [99,104,97,114],.tup [.int 0,.int 65536],.str [105,49],.tup [.neg (.int 128),.int 256],.str [117,49],.tup [.int 0,.int 256],.str [105,50],.tup [.neg (.int 32768),.int 65536],.str [117,50],.tup [.int 0,.int 65536],.str [101],.tup [.neg (.int 32768),.int 65536],.str [105,52],.tup [.neg (.int 2147483648),.int 4294967296],.str [117,52],.tup [.neg (.int 2147483648),.int 4294967296],.str [105,56],.tup [.neg (.int 9223372036854775808),.int 18446744073709551616],.str [117,56],.tup [.neg (.int 9223372036854775808),.int 18446744073709551616],.str [110,105,110,116],.tup [.neg (.int 2147483648),.int 4294967296]])]
noncomputable def zd2:List S :=
 [.set (.name 2) (.neg (.bin .Pow (.int 2) (.bin .Sub (.loc 1) (.int 1)))),
 .ret (.bin .Add (.bin .Mod (.bin .Sub (.loc 0) (.loc 2)) (.bin .Pow (.int 2) (.loc 1))) (.loc 2))]
noncomputable def xt:List S :=
 [.ite (.bor [.cmp (.loc 0) [.NotIn] [.call 117 []],.cmp (.idx (.loc 1) (.int 0)) [.Gt] [.int 3]]) [.ret (.loc 1)] [],
 .set (.name 2) (.int 1),
 .ite (.cmp (.call 120 [.loc 0]) [.Eq] [.int 8]) [.set (.name 2) (.int 2)] [],
 .ite (.cmp (.loc 0) [.Eq] [.str [110,105,110,116]]) [.set (.name 2) (.int 3)] [],
 .set (.names [3,4]) (.idx (.call 117 []) (.loc 0)),
 .ret (.tup [.loc 2,.bin .Add (.bin .Mod (.bin .Sub (.idx (.loc 1) (.int 1)) (.loc 3)) (.loc 4)) (.loc 3)])]
noncomputable def zac:List S :=
 [.ret (.get2 (.call 116 []) (.loc 0) (.int 0))]
noncomputable def qJ:List S :=
 [.ret (.bor [.cmp (.call 120 [.loc 0]) [.NotEq] [.call 120 [.loc 1]],.band [.cmp (.call 120 [.loc 0]) [.Eq] [.int 9],.cmp (.loc 0) [.NotEq] [.loc 1]]])]
noncomputable def zaV:List S :=
 [.set (.name 3) (.call 120 [.loc 0]),
 .ite (.cmp (.loc 3) [.Eq] [.int 0]) [.ret (.cmp (.idx (.loc 1) (.int 0)) [.Eq] [.int 4])] [],
 .ite (.cmp (.loc 3) [.Eq] [.int 9]) [.ret (.band [.cmp (.idx (.loc 1) (.int 0)) [.Eq] [.int 5],.cmp (.idx (.loc 1) (.int 1)) [.Eq] [.idx (.idx (.loc 2) (.str [107,105,110,100,115])) (.loc 0)]])] [],
 .ite (.cmp (.loc 3) [.Eq] [.int 8]) [.ret (.cmp (.idx (.loc 1) (.int 0)) [.Eq] [.int 2])] [],
 .ite (.cmp (.loc 3) [.Eq] [.int 5]) [.ret (.cmp (.idx (.loc 1) (.int 0)) [.In] [.tup [.int 1,.int 3,.int 7]])] [],
 .ret (.cmp (.idx (.loc 1) (.int 0)) [.In] [.tup [.int 1,.int 3]])]
noncomputable def zbh:List S :=
 [.ite (.bor [.cmp (.loc 0) [.Eq] [.loc 1],.cmp (.loc 1) [.Eq] [.str [111]]]) [.ret (.bool true)] [],
 .ite (.band [.cmp (.sliceFrom (.loc 0) 2) [.Eq] [.str [91,93]],.cmp (.sliceFrom (.loc 1) 2) [.Eq] [.str [91,93]]]) [.set (.name 2) (.sliceTo (.loc 0) 2),
  .set (.name 3) (.sliceTo (.loc 1) 2),
  .ite (.band [.cmp (.call 120 [.loc 2]) [.Eq] [.int 0],.cmp (.call 120 [.loc 3]) [.Eq] [.int 0]]) [.ret (.call 123 [.loc 2,.loc 3])] [],
  .ret (.cmp (.get2 (.call 115 []) (.loc 2) (.loc 2)) [.Eq] [.get2 (.call 115 []) (.loc 3) (.loc 3)])] [],
 .ret (.cmp (.loc 1) [.In] [.get2 (.call 114 []) (.loc 0) (.tup [])])]
noncomputable def zbd:List S :=
 [.ite (.cmp (.loc 1) [.NotIn] [.idx (.loc 0) (.str [107,105,110,100,115])]) [.set (.idx (.idx (.loc 0) (.str [107,105,110,100,115])) (.loc 1)) (.call 15 [.attr (.idx (.loc 0) (.str [109])) 47,.call 124 [.loc 0,.sliceTo (.loc 1) 2]])] [],
 .ret (.idx (.idx (.loc 0) (.str [107,105,110,100,115])) (.loc 1))]
noncomputable def ZQ:List S :=
 [.set (.name 3) (.attr (.idx (.loc 0) (.str [109])) 47),
 .ite (.loc 2) [.ite (.cmp (.loc 1) [.Eq] [.str [97]]) [.ret (.call 16 [.loc 3,.int 0])] [],
  .ite (.cmp (.loc 1) [.Eq] [.str [117,52]]) [.ret (.call 16 [.loc 3,.int 1])] [],
  .ite (.cmp (.loc 1) [.Eq] [.str [98]]) [.ret (.call 17 [.loc 3,.int 0])] [],
  .ite (.cmp (.loc 1) [.Eq] [.str [117,49]]) [.ret (.call 17 [.loc 3,.int 1])] [],
  .ite (.cmp (.loc 1) [.Eq] [.str [97,91,93]]) [.ret (.call 15 [.loc 3,.call 16 [.loc 3,.int 0]])] []] [],
 .ret (.call 124 [.loc 0,.loc 1])]
noncomputable def Z0:List S :=
 [.set (.name 2) (.call 120 [.loc 1]),
 .ite (.cmp (.loc 2) [.Eq] [.int 0]) [.ret (.tup [.int 4,.int 0])] [],
 .ite (.cmp (.loc 2) [.Eq] [.int 9]) [.ret (.tup [.int 5,.idx (.idx (.loc 0) (.str [107,105,110,100,115])) (.loc 1),.tup [.tup [.int 1,.int 0],.tup [.int 4,.int 0]]])] [],
 .ret (.call 119 [.loc 1,.tup [.int 1,.int 0]])]
noncomputable def Yn:List S :=
 [.set (.name 2) (.bin .Add (.bin .Add (.lst [.int 0]) (.idx (.loc 0) (.str [111,98,106,101,99,116,115]))) (.idx (.loc 0) (.str [111,114,100,101,114]))),
 .ret (.tup [.int 4,.idx (.loc 2) (.bin .Mod (.loc 1) (.len (.loc 2)))])]
noncomputable def qC:List S :=
 [.set (.name 3) (.call 120 [.loc 1]),
 .ite (.cmp (.loc 3) [.Eq] [.int 0]) [.ret (.call 127 [.loc 0,.loc 2])] [],
 .ite (.cmp (.loc 3) [.Eq] [.int 9]) [.ret (.tup [.int 5,.idx (.idx (.loc 0) (.str [107,105,110,100,115])) (.loc 1),.tup [.tup [.int 1,.call 118 [.loc 2,.int 32]],.call 127 [.loc 0,.loc 2]]])] [],
 .ite (.cmp (.loc 3) [.Eq] [.int 8]) [.ret (.tup [.int 2,.call 118 [.loc 2,.int 64]])] [],
 .ret (.tup [.bin .Add (.int 1) (.bin .Mult (.int 2) (.bin .Mod (.loc 2) (.int 2))),.call 118 [.bin .FloorDiv (.loc 2) (.int 2),.int 32]])]
noncomputable def ZT:List S :=
 [.ite (.cmp (.bin .Mod (.loc 2) (.int 5)) [.Eq] [.int 4]) [.set (.name 2) (.bin .FloorDiv (.loc 2) (.int 5)),
  .set (.name 3) (.bin .Mod (.loc 2) (.int 6)),
  .ite (.cmp (.loc 3) [.Eq] [.int 4]) [.ret (.tup [.int 7,.tup [.int 12,.int 1,.tup []]])] [],
  .ret (.call 128 [.loc 0,.idx (.tup [.str [105,52],.str [105,56],.str [110,105,110,116],.str [111],.str [],.str [115]]) (.loc 3),.bin .FloorDiv (.loc 2) (.int 6)])] [],
 .ret (.call 128 [.loc 0,.loc 1,.bin .FloorDiv (.loc 2) (.int 5)])]
noncomputable def xj:List S :=
 [.ite (.cmp (.idx (.loc 0) (.int 0)) [.Eq] [.int 5]) [.ret (.cmp (.idx (.idx (.idx (.loc 0) (.int 2)) (.int 1)) (.int 1)) [.NotEq] [.int 0])] [],
 .ret (.band [.cmp (.idx (.loc 0) (.int 0)) [.Eq] [.int 4],.cmp (.idx (.loc 0) (.int 1)) [.NotEq] [.int 0]])]
noncomputable def zdq:List S :=
 [.set (.names [4,5,6]) (.idx (.idx (.loc 0) (.str [97,114,114,97,121,115])) (.loc 1)),
 .set (.idx (.loc 5) (.loc 2)) (.loc 3),
 .ite (.band [.cmp (.idx (.loc 6) (.int 0)) [.Gt] [.int 0],.call 130 [.loc 3]]) [.set (.idx (.idx (.loc 0) (.str [99,97,114,100,115])) (.bin .FloorDiv (.bin .Add (.bin .Add (.loc 1) (.int 2)) (.loc 2)) (.bin .Pow (.int 2) (.idx (.loc 0) (.str [98,105,116,115]))))) (.int 1)] []]
noncomputable def xS:List S :=
 [.ite (.band [.cmp (.idx (.loc 2) (.int 0)) [.NotEq] [.int 1],.cmp (.idx (.loc 2) (.int 0)) [.NotEq] [.int 3]]) [.ret (.tup [.str [119,114,111,110,103],.int 1])] [],
 .ret (.call 133 [.loc 0,.loc 1,.idx (.loc 2) (.int 1)])]
noncomputable def zaw:List S :=
 [.ite (.cmp (.idx (.loc 1) (.int 0)) [.NotEq] [.int 4]) [.ret (.tup [.str [119,114,111,110,103],.int 1])] [],
 .ite (.cmp (.idx (.loc 1) (.int 1)) [.Eq] [.int 0]) [.ret (.tup [.str [116,104,114,111,119],.int 21])] [],
 .ite (.cmp (.idx (.loc 1) (.int 1)) [.NotIn] [.idx (.loc 0) (.str [97,114,114,97,121,115])]) [.ret (.tup [.str [119,114,111,110,103],.int 5])] [],
 .ite (.bor [.cmp (.loc 2) [.Lt] [.int 0],.cmp (.loc 2) [.GtE] [.len (.idx (.idx (.idx (.loc 0) (.str [97,114,114,97,121,115])) (.idx (.loc 1) (.int 1))) (.int 1))]]) [.ret (.tup [.str [116,104,114,111,119],.int 22])] [],
 .ret (.tup [.str [],.int 0])]
noncomputable def zbW:List S :=
 [.set (.name 4) (.idx (.loc 0) (.str [109])),
 .set (.name 5) (.sliceAll (.attr (.idx (.loc 0) (.str [102])) 35)),
 .set (.name 6) (.sliceAll (.attr (.loc 4) 54)),
 .set (.name 7) (.sliceAll (.attr (.loc 4) 53)),
 .set (.attr (.loc 4) 43) (.int 0),
 .delAll (.attr (.loc 4) 54),
 .delAll (.attr (.loc 4) 53),
 .delAll (.attr (.idx (.loc 0) (.str [102])) 35),
 .ite (.isB (.loc 1)) [.ret (.bool false)] [],
 .ite (.cmp (.idx (.loc 2) (.int 0)) [.Eq] [.str [116,104,114,111,119]]) [.ret (.band [.cmp (.loc 1) [.Eq] [.neg (.int 2)],.cmp (.loc 6) [.Eq] [.lst [.idx (.loc 2) (.int 1)]],.cmp (.loc 7) [.Eq] [.lst []]])] [],
 .ite (.cmp (.idx (.loc 2) (.int 0)) [.Eq] [.str [119,114,111,110,103]]) [.ret (.band [.cmp (.loc 1) [.Eq] [.neg (.int 2)],.cmp (.loc 6) [.Eq] [.lst []],.cmp (.loc 7) [.Eq] [.lst [.tup [.idx (.loc 2) (.int 1),.int 1,.int 0]]]])] [],
 .ret (.band [.cmp (.loc 1) [.Eq] [.neg (.int 1)],.cmp (.loc 6) [.Eq] [.lst []],.cmp (.loc 7) [.Eq] [.lst []],.cmp (.loc 5) [.Eq] [.bin .Add (.lst [.tup [.int 1,.int 77]]) (.loc 3)]])]
noncomputable def xN:List S :=
 [.ite (.cmp (.loc 1) [.In] [.idx (.loc 0) (.str [97,114,114,97,121,115])]) [.ret (.bin .Add (.idx (.idx (.idx (.loc 0) (.str [97,114,114,97,121,115])) (.loc 1)) (.int 0)) (.str [91,93]))] [],
 .ret (.idx (.idx (.loc 0) (.str [101,120,97,99,116])) (.loc 1))]
noncomputable def zd6:List S :=
 [.set (.name 3) (.call 135 [.loc 0,.idx (.loc 1) (.int 1)]),
 .ite (.bnot (.call 123 [.loc 3,.loc 2])) [.ret (.bool false)] [],
 .set (.idx (.attr (.idx (.loc 0) (.str [109])) 48) (.tup [.call 124 [.loc 0,.loc 3],.call 124 [.loc 0,.loc 2]])) (.int 1),
 .ret (.bool true)]
noncomputable def xx:List S :=
 [.set (.name 6) (.call 132 [.loc 0,.loc 1,.loc 2]),
 .ite (.cmp (.idx (.loc 6) (.int 0)) [.Eq] [.str []]) [.set (.name 7) (.idx (.idx (.idx (.loc 0) (.str [97,114,114,97,121,115])) (.idx (.loc 1) (.int 1))) (.int 0)),
  .ite (.call 121 [.loc 7,.loc 4]) [.set (.name 6) (.tup [.str [119,114,111,110,103],.int 5])] [.ite (.bnot (.call 122 [.loc 7,.loc 3,.loc 0])) [.set (.name 6) (.tup [.str [119,114,111,110,103],.int 1])] [.ite (.band [.cmp (.idx (.loc 3) (.int 0)) [.Eq] [.int 4],.cmp (.idx (.loc 3) (.int 1)) [.NotEq] [.int 0]]) [.expr (.call 136 [.loc 0,.loc 3,.loc 4]),
     .ite (.bnot (.call 136 [.loc 0,.loc 3,.loc 7])) [.set (.name 6) (.tup [.str [116,104,114,111,119],.int 27])] []] []]]] [.ite (.band [.cmp (.idx (.loc 3) (.int 0)) [.Eq] [.int 4],.cmp (.idx (.loc 3) (.int 1)) [.NotEq] [.int 0],.cmp (.call 120 [.loc 4]) [.Eq] [.int 0]]) [.expr (.call 136 [.loc 0,.loc 3,.loc 4])] []],
 .set (.attr (.idx (.loc 0) (.str [102])) 35) (.lst [.tup [.int 1,.int 77],.loc 1,.loc 2,.loc 3]),
 .ite (.bnot (.call 134 [.loc 0,.meth (.new 16 []) 82 [.idx (.loc 0) (.str [109]),.idx (.loc 0) (.str [102]),.loc 5],.loc 6,.lst []])) [.ret (.bool false)] [],
 .ite (.cmp (.idx (.loc 6) (.int 0)) [.Eq] [.str []]) [.expr (.call 131 [.loc 0,.idx (.loc 1) (.int 1),.idx (.loc 2) (.int 1),.call 119 [.idx (.idx (.idx (.loc 0) (.str [97,114,114,97,121,115])) (.idx (.loc 1) (.int 1))) (.int 0),.loc 3]])] [],
 .ret (.bool true)]
noncomputable def zcl:List S :=
 [.set (.name 5) (.call 132 [.loc 0,.loc 1,.loc 2]),
 .set (.name 6) (.lst []),
 .ite (.cmp (.idx (.loc 5) (.int 0)) [.Eq] [.str []]) [.set (.names [7,8,9]) (.idx (.idx (.loc 0) (.str [97,114,114,97,121,115])) (.idx (.loc 1) (.int 1))),
  .ite (.call 121 [.loc 7,.loc 3]) [.set (.name 5) (.tup [.str [119,114,111,110,103],.int 5])] [.set (.name 6) (.lst [.call 119 [.loc 3,.idx (.loc 8) (.idx (.loc 2) (.int 1))]])]] [],
 .set (.attr (.idx (.loc 0) (.str [102])) 35) (.lst [.tup [.int 1,.int 77],.loc 1,.loc 2]),
 .ret (.call 134 [.loc 0,.meth (.new 15 []) 82 [.idx (.loc 0) (.str [109]),.idx (.loc 0) (.str [102]),.loc 4],.loc 5,.loc 6])]
noncomputable def xP:List S :=
 [.set (.name 7) (.idx (.loc 0) (.str [109])),
 .set (.name 8) (.idx (.loc 0) (.str [102])),
 .set (.name 9) (.call 132 [.loc 0,.loc 1,.loc 2]),
 .set (.name 10) (.lst []),
 .ite (.cmp (.idx (.loc 9) (.int 0)) [.Eq] [.str []]) [.set (.name 11) (.idx (.idx (.idx (.loc 0) (.str [97,114,114,97,121,115])) (.idx (.loc 1) (.int 1))) (.int 0)),
  .ite (.band [.cmp (.call 120 [.loc 3]) [.Eq] [.int 0],.cmp (.loc 11) [.NotEq] [.loc 3],.bnot (.loc 5)]) [.set (.name 9) (.tup [.str [116,104,114,111,119],.int 27])] [.set (.name 10) (.lst [.tup [.int 6,.tup [.int 3,.bin .Add (.bin .Add (.idx (.loc 1) (.int 1)) (.int 2)) (.idx (.loc 2) (.int 1)),.tup []]]])]] [],
 .set (.attr (.loc 8) 35) (.lst [.tup [.int 1,.int 77],.loc 1,.loc 2]),
 .ite (.band [.loc 5,.cmp (.meth (.new 18 []) 82 [.loc 7,.loc 8,.int 0]) [.NotEq] [.neg (.int 1)]]) [.ret (.bool false)] [],
 .ite (.bor [.bnot (.call 134 [.loc 0,.meth (.new 17 []) 82 [.loc 7,.loc 8,.loc 4],.loc 9,.loc 10]),.cmp (.attr (.loc 8) 42) [.NotEq] [.neg (.int 1)]]) [.ret (.bool false)] [],
 .ite (.cmp (.idx (.loc 9) (.int 0)) [.NotEq] [.str []]) [.ret (.bool true)] [],
 .set (.name 12) (.idx (.idx (.loc 10) (.int 0)) (.int 1)),
 .set (.names [11,13,14]) (.idx (.idx (.loc 0) (.str [97,114,114,97,121,115])) (.idx (.loc 1) (.int 1))),
 .ite (.cmp (.call 59 [.attr (.loc 7) 65,.loc 12]) [.NotEq] [.idx (.loc 13) (.idx (.loc 2) (.int 1))]) [.ret (.bool false)] [],
 .set (.name 15) (.call 119 [.loc 11,.call 128 [.loc 0,.loc 11,.loc 6]]),
 .ite (.band [.cmp (.call 120 [.loc 11]) [.Eq] [.int 0],.cmp (.idx (.loc 15) (.int 1)) [.NotEq] [.int 0],.bnot (.call 123 [.call 135 [.loc 0,.idx (.loc 15) (.int 1)],.loc 11])]) [.ret (.bool true)] [],
 .expr (.call 131 [.loc 0,.idx (.loc 1) (.int 1),.idx (.loc 2) (.int 1),.loc 15]),
 .ret (.call 60 [.attr (.loc 7) 65,.loc 12,.loc 15])]
noncomputable def zbl:List S :=
 [.set (.name 4) (.idx (.loc 0) (.str [109])),
 .set (.name 5) (.tup [.str [],.int 0]),
 .set (.name 6) (.lst []),
 .ite (.band [.cmp (.idx (.loc 3) (.int 0)) [.NotEq] [.int 1],.cmp (.idx (.loc 3) (.int 0)) [.NotEq] [.int 3]]) [.set (.name 5) (.tup [.str [119,114,111,110,103],.int 1])] [.ite (.cmp (.idx (.loc 3) (.int 1)) [.Lt] [.int 0]) [.set (.name 5) (.tup [.str [116,104,114,111,119],.int 26])] [.ite (.cmp (.idx (.loc 3) (.int 1)) [.Gt] [.int 1000000]) [.set (.name 5) (.tup [.str [116,104,114,111,119],.int 30])] []]],
 .set (.name 7) (.idx (.loc 0) (.str [116,111,112])),
 .ite (.cmp (.idx (.loc 5) (.int 0)) [.Eq] [.str []]) [.set (.name 6) (.lst [.tup [.int 4,.loc 7]]),
  .set (.idx (.idx (.loc 0) (.str [97,114,114,97,121,115])) (.loc 7)) (.tup [.loc 1,.bin .Mult (.lst [.call 126 [.loc 0,.loc 1]]) (.idx (.loc 3) (.int 1)),.lst [.int 0]]),
  .expr (.append (.idx (.loc 0) (.str [111,114,100,101,114])) (.loc 7)),
  .set (.idx (.loc 0) (.str [116,111,112])) (.bin .Add (.loc 7) (.max2 (.int 3) (.bin .Add (.int 2) (.idx (.loc 3) (.int 1)))))] [],
 .set (.attr (.idx (.loc 0) (.str [102])) 35) (.lst [.tup [.int 1,.int 77],.loc 3]),
 .ret (.call 134 [.loc 0,.meth (.new 13 []) 82 [.loc 4,.idx (.loc 0) (.str [102]),.call 125 [.loc 0,.loc 1,.loc 2]],.loc 5,.loc 6])]
noncomputable def qQ:List S :=
 [.set (.name 2) (.call 133 [.loc 0,.loc 1,.int 0]),
 .set (.name 3) (.lst []),
 .ite (.bor [.cmp (.idx (.loc 2) (.int 0)) [.Eq] [.str []],.cmp (.idx (.loc 2) (.int 1)) [.Eq] [.int 22]]) [.set (.name 2) (.tup [.str [],.int 0]),
  .set (.name 3) (.lst [.tup [.int 3,.len (.idx (.idx (.idx (.loc 0) (.str [97,114,114,97,121,115])) (.idx (.loc 1) (.int 1))) (.int 1))]])] [],
 .set (.attr (.idx (.loc 0) (.str [102])) 35) (.lst [.tup [.int 1,.int 77],.loc 1]),
 .ret (.call 134 [.loc 0,.meth (.new 14 []) 82 [.idx (.loc 0) (.str [109]),.idx (.loc 0) (.str [102]),.int 0],.loc 2,.loc 3])]
noncomputable def zan:List S :=
 [.set (.name 2) (.bin .FloorDiv (.loc 1) (.int 8)),
 .ite (.cmp (.bin .Mod (.loc 1) (.int 8)) [.Lt] [.int 6]) [.ret (.tup [.int 4,.idx (.idx (.loc 0) (.str [111,114,100,101,114])) (.bin .Mod (.loc 2) (.len (.idx (.loc 0) (.str [111,114,100,101,114]))))])] [],
 .ite (.cmp (.bin .Mod (.loc 1) (.int 8)) [.Eq] [.int 6]) [.ret (.tup [.int 4,.int 0])] [],
 .set (.name 3) (.tup [.tup [.int 4,.idx (.idx (.loc 0) (.str [111,98,106,101,99,116,115])) (.bin .Mod (.bin .FloorDiv (.loc 2) (.int 4)) (.len (.idx (.loc 0) (.str [111,98,106,101,99,116,115]))))],.tup [.int 1,.int 16],.tup [.int 4,.int 5000],.tup [.int 2,.int 0]]),
 .ret (.idx (.loc 3) (.bin .Mod (.loc 2) (.int 4)))]
noncomputable def xW:List S :=
 [.set (.name 2) (.bin .FloorDiv (.loc 0) (.int 8)),
 .set (.name 3) (.bin .Add (.int 1) (.bin .Mult (.int 2) (.bin .Mod (.loc 2) (.int 2)))),
 .ite (.cmp (.bin .Mod (.loc 0) (.int 8)) [.Lt] [.int 4]) [.ret (.tup [.loc 3,.bin .Mod (.bin .FloorDiv (.loc 2) (.int 2)) (.max2 (.int 1) (.loc 1))])] [],
 .ite (.cmp (.bin .Mod (.loc 0) (.int 8)) [.Eq] [.int 4]) [.ret (.tup [.loc 3,.loc 1])] [],
 .ite (.cmp (.bin .Mod (.loc 0) (.int 8)) [.Eq] [.int 5]) [.ret (.tup [.loc 3,.neg (.int 1)])] [],
 .ite (.cmp (.bin .Mod (.loc 0) (.int 8)) [.Eq] [.int 6]) [.ret (.tup [.loc 3,.call 118 [.bin .FloorDiv (.loc 2) (.int 2),.int 32]])] [],
 .ret (.tup [.int 2,.int 0])]
noncomputable def za6:List S :=
 [.ite (.bor [.cmp (.idx (.loc 1) (.int 0)) [.NotEq] [.int 4],.cmp (.idx (.loc 1) (.int 1)) [.NotIn] [.idx (.loc 0) (.str [97,114,114,97,121,115])]]) [.ret (.idx (.glb 73) (.bin .Mod (.loc 2) (.len (.glb 73))))] [],
 .set (.name 3) (.idx (.idx (.idx (.loc 0) (.str [97,114,114,97,121,115])) (.idx (.loc 1) (.int 1))) (.int 0)),
 .ite (.cmp (.bin .Mod (.loc 2) (.int 4)) [.Eq] [.int 3]) [.ret (.idx (.glb 73) (.bin .Mod (.bin .FloorDiv (.loc 2) (.int 4)) (.len (.glb 73))))] [],
 .ite (.cmp (.bin .Mod (.loc 2) (.int 4)) [.Eq] [.int 2]) [.ret (.get2 (.call 113 []) (.loc 3) (.loc 3))] [],
 .ret (.loc 3)]
noncomputable def zbF:List S :=
 [.set (.name 5) (.bin .Mod (.loc 1) (.int 8)),
 .set (.name 6) (.bin .FloorDiv (.loc 1) (.int 8)),
 .set (.name 7) (.cmp (.bin .Mod (.loc 6) (.int 2)) [.Eq] [.int 1]),
 .ite (.cmp (.loc 5) [.Eq] [.int 5]) [.set (.name 8) (.tup [.int 0,.int 1,.int 2,.int 3,.int 5,.neg (.int 1),.neg (.int 2147483648),.int 2147483647]),
  .set (.name 9) (.tup [.bin .Add (.int 1) (.bin .Mult (.int 2) (.bin .Mod (.bin .FloorDiv (.loc 3) (.int 8)) (.int 2))),.idx (.loc 8) (.bin .Mod (.loc 3) (.int 8))]),
  .ite (.cmp (.bin .Mod (.loc 4) (.int 7)) [.Eq] [.int 6]) [.set (.name 9) (.tup [.int 2,.idx (.loc 8) (.bin .Mod (.loc 3) (.int 8))])] [],
  .ret (.call 140 [.loc 0,.idx (.glb 73) (.bin .Mod (.loc 2) (.len (.glb 73))),.loc 7,.loc 9])] [],
 .set (.name 10) (.call 142 [.loc 0,.loc 2]),
 .ite (.cmp (.loc 5) [.Eq] [.int 6]) [.ret (.call 141 [.loc 0,.loc 10])] [],
 .set (.name 11) (.int 0),
 .ite (.band [.cmp (.idx (.loc 10) (.int 0)) [.Eq] [.int 4],.cmp (.idx (.loc 10) (.int 1)) [.In] [.idx (.loc 0) (.str [97,114,114,97,121,115])]]) [.set (.name 11) (.len (.idx (.idx (.idx (.loc 0) (.str [97,114,114,97,121,115])) (.idx (.loc 10) (.int 1))) (.int 1))),
  .ite (.cmp (.loc 5) [.Eq] [.int 7]) [.set (.idx (.idx (.idx (.idx (.loc 0) (.str [97,114,114,97,121,115])) (.idx (.loc 10) (.int 1))) (.int 2)) (.int 0)) (.bin .Add (.int 1) (.bin .Mod (.loc 6) (.int 2))),
   .set (.attr (.idx (.attr (.attr (.idx (.loc 0) (.str [109])) 25) 1) (.idx (.loc 10) (.int 1))) 11) (.bin .Add (.int 1) (.bin .Mod (.loc 6) (.int 2)))] []] [],
 .set (.name 12) (.call 143 [.loc 3,.loc 11]),
 .set (.name 13) (.call 144 [.loc 0,.loc 10,.bin .FloorDiv (.loc 6) (.int 4)]),
 .set (.name 14) (.call 125 [.loc 0,.loc 13,.loc 7]),
 .ite (.bor [.cmp (.loc 5) [.LtE] [.int 1],.cmp (.loc 5) [.Eq] [.int 7]]) [.set (.name 15) (.loc 13),
  .ite (.cmp (.loc 11) [.Gt] [.int 0]) [.set (.name 15) (.idx (.idx (.idx (.loc 0) (.str [97,114,114,97,121,115])) (.idx (.loc 10) (.int 1))) (.int 0))] [],
  .ret (.call 137 [.loc 0,.loc 10,.loc 12,.call 129 [.loc 0,.loc 15,.loc 4],.loc 13,.loc 14])] [],
 .ite (.cmp (.loc 5) [.LtE] [.int 3]) [.ret (.call 138 [.loc 0,.loc 10,.loc 12,.loc 13,.loc 14])] [],
 .ret (.call 139 [.loc 0,.loc 10,.loc 12,.loc 13,.loc 14,.cmp (.bin .Mod (.bin .FloorDiv (.loc 6) (.int 2)) (.int 2)) [.Eq] [.int 1],.loc 4])]
noncomputable def zaC:List S :=
 [.set (.name 1) (.new 12 []),
 .set (.name 2) (.attr (.loc 1) 47),
 .set (.name 3) (.new 11 [.loc 1,.new 4 [.int 400,.bin .Mod (.loc 0) (.int 4)]]),
 .set (.name 4) (.dic [.str [111],.int 12,.str [116],.int 13]),
 .loopK 5 112 [[98,111,111,108],[99,104,97,114],[105,49],[117,49],[105,50],[117,50],[105,52],[117,52],[105,56],[117,56],[110,105,110,116]] [.set (.idx (.loc 4) (.loc 5)) (.idx (.call 112 []) (.loc 5))],
 .set (.idx (.loc 4) (.str [97])) (.call 12 [.loc 2,.int 64,.tup []]),
 .set (.idx (.loc 4) (.str [98])) (.call 12 [.loc 2,.int 65,.tup []]),
 .set (.idx (.loc 4) (.str [99])) (.call 12 [.loc 2,.int 66,.tup []]),
 .set (.idx (.loc 4) (.str [100])) (.call 12 [.loc 2,.int 67,.tup []]),
 .set (.idx (.loc 4) (.str [105])) (.call 12 [.loc 2,.int 68,.tup []]),
 .set (.idx (.loc 4) (.str [101])) (.call 13 [.loc 2,.int 69,.tup []]),
 .set (.idx (.loc 4) (.str [115])) (.call 13 [.loc 2,.int 70,.tup []]),
 .set (.idx (.attr (.loc 3) 51) (.idx (.loc 4) (.str [101]))) (.int 5),
 .set (.idx (.loc 4) (.str [115,50])) (.call 13 [.loc 2,.int 72,.tup []]),
 .loop 5 (.tup [.str [115],.str [115,50]]) [.set (.idx (.attr (.loc 3) 50) (.idx (.loc 4) (.loc 5))) (.tup [.int 5,.idx (.loc 4) (.loc 5),.tup [.tup [.int 1,.int 0],.tup [.int 4,.int 0]]])],
 .set (.name 6) (.new 6 [.int 1,.tup [.call 12 [.loc 2,.int 71,.tup [.idx (.loc 4) (.str [97]),.int 8]],.int 1,.tup [.idx (.loc 4) (.str [98]),.int 4]],.none,.lst [],.int 0]),
 .expr (.append (.attr (.loc 3) 26) (.loc 6)),
 .set (.name 7) (.lst []),
 .set (.name 8) (.dic []),
 .loop 5 (.tup [.str [97],.str [98],.str [99],.str [100],.str [116],.str [105,52],.str [101]]) [.set (.name 9) (.call 44 [.attr (.loc 3) 25,.idx (.loc 4) (.loc 5),.lst [.tup [.int 1,.int 5]]]),
  .expr (.append (.loc 7) (.attr (.loc 9) 8)),
  .set (.idx (.loc 8) (.attr (.loc 9) 8)) (.loc 5)],
 .ret (.dic [.str [109],.loc 3,.str [102],.loc 6,.str [107,105,110,100,115],.loc 4,.str [111,98,106,101,99,116,115],.loc 7,.str [101,120,97,99,116],.loc 8,.str [97,114,114,97,121,115],.dic [],.str [111,114,100,101,114],.lst [],.str [99,97,114,100,115],.dic [],.str [98,105,116,115],.bin .Mod (.loc 0) (.int 4),.str [116,111,112],.attr (.attr (.loc 3) 25) 15])]
noncomputable def ZJ:List S :=
 [.set (.name 1) (.attr (.idx (.loc 0) (.str [109])) 25),
 .loop 2 (.idx (.loc 0) (.str [111,114,100,101,114])) [.set (.name 3) (.get1 (.attr (.loc 1) 1) (.loc 2)),
  .set (.names [4,5,6]) (.idx (.idx (.loc 0) (.str [97,114,114,97,121,115])) (.loc 2)),
  .ite (.bor [.cmp (.loc 3) [.Is] [.none],.cmp (.attr (.loc 3) 9) [.NotEq] [.call 124 [.loc 0,.bin .Add (.loc 4) (.str [91,93])]],.cmp (.attr (.loc 3) 10) [.NotEq] [.loc 5]]) [.ret (.bool false)] []],
 .ite (.cmp (.len (.attr (.loc 1) 14)) [.NotEq] [.bin .Add (.len (.idx (.loc 0) (.str [111,114,100,101,114]))) (.int 7)]) [.ret (.bool false)] [],
 .ret (.band [.cmp (.attr (.loc 1) 17) [.Eq] [.idx (.loc 0) (.str [99,97,114,100,115])],.cmp (.attr (.loc 1) 15) [.Eq] [.idx (.loc 0) (.str [116,111,112])]])]
noncomputable def zcO:List S :=
 [.set (.name 1) (.int 0),
 .ite (.cmp (.len (.loc 0)) [.Gt] [.int 0]) [.set (.name 1) (.idx (.loc 0) (.int 0))] [],
 .set (.name 2) (.call 146 [.loc 1]),
 .loop 3 (.tup [.str [98],.str [111],.str [117,49],.str [115]]) [.ite (.bnot (.call 140 [.loc 2,.loc 3,.bool false,.tup [.int 1,.int 2]])) [.ret (.bool false)] []],
 .ite (.bnot (.call 145 [.loc 2,.int 0,.bin .Mult (.int 8) (.bin .FloorDiv (.loc 1) (.int 4)),.bin .FloorDiv (.loc 1) (.int 16),.bin .FloorDiv (.loc 1) (.int 128)])) [.ret (.bool false)] [],
 .set (.name 4) (.max2 (.int 1) (.min2 (.int 9) (.bin .FloorDiv (.bin .Add (.len (.loc 0)) (.int 2)) (.int 4)))),
 .loop 5 (.range (.loc 4)) [.set (.name 6) (.lst [.int 0,.int 0,.int 0,.int 0]),
  .loop 7 (.range (.int 4)) [.ite (.cmp (.bin .Add (.bin .Add (.bin .Mult (.int 4) (.loc 5)) (.loc 7)) (.int 1)) [.Lt] [.len (.loc 0)]) [.set (.idx (.loc 6) (.loc 7)) (.idx (.loc 0) (.bin .Add (.bin .Add (.bin .Mult (.int 4) (.loc 5)) (.loc 7)) (.int 1)))] []],
  .ite (.bnot (.call 145 [.loc 2,.idx (.loc 6) (.int 0),.idx (.loc 6) (.int 1),.idx (.loc 6) (.int 2),.idx (.loc 6) (.int 3)])) [.ret (.bool false)] []],
 .ret (.call 147 [.loc 2])]
noncomputable def fnL:List (Nat×List S):=[(1,zkD),(3,Yb),(1,Wp),(2,Yv),(2,Yp),(1,Z3),(1,xK),(1,qY),(2,WR),(2,ZR),(2,jD),(2,x9),(3,jm),(3,qS),(2,zaa),(2,qK),(2,zb3),(2,zaE),(2,za8),(2,zdP),(2,zeR),(2,zdS),(2,zbp),(2,zfa),(4,ziA),(5,zbk),(3,jB),(2,zfT),(3,zcf),(2,zaI),(1,zgT),(1,zgB),(1,Ys),(2,zgp),(3,zbI),(2,zeG),(1,jx),(3,zkP),(2,zbM),(3,zbe),(1,zd5),(1,zaP),(4,jP),(3,xM),(3,jb),(2,j9),(2,xe),(2,zdz),(2,zaD),(1,V2),(2,Z4),(4,qH),(4,qR),(4,WG),(2,jK),(1,zdG),(2,zbr),(1,zcm),(2,jO),(2,qZ),(3,ZL),(6,jv),(4,zff),(3,ZH),(4,Y1),(3,KJ),(4,Vj),(3,WD),(4,ZA),(3,YO),(4,Wv),(5,WO),(3,Yo),(3,Yt),(3,qU),(3,qW),(3,qX),(2,W5),(2,W8),(2,Wi),(2,VB),(3,Zp),(2,Yu),(2,ZY),(2,Wj),(3,ZU),(2,ZN),(2,zab),(3,VJ),(2,ZM),(2,zcg),(2,Zb),(2,zbm),(3,ZW),(2,jL),(2,xB),(3,zeX),(3,ZZ),(1,jY),(1,jk),(2,zbY),(3,jf),(2,zcb),(3,jn),(4,WI),(4,YZ),(4,Vh),(3,jy),(4,KL),(4,J0),(4,Wr),(3,ziP),(0,ZX),(0,jh),(0,xo),(0,za1),(0,jG),(0,jt),(2,zd2),(2,xt),(1,zac),(2,qJ),(3,zaV),(2,zbh),(2,zbd),(3,ZQ),(2,Z0),(2,Yn),(3,qC),(3,ZT),(1,xj),(4,zdq),(3,xS),(3,zaw),(4,zbW),(2,xN),(3,zd6),(6,xx),(5,zcl),(7,xP),(4,zbl),(2,qQ),(2,zan),(2,xW),(3,za6),(5,zbF),(1,zaC),(1,ZJ),(1,zcO)]
noncomputable def Jz (f:Nat):Option (Nat×List S):=nth fnL f
noncomputable def zdc:List (Nat×Nat×Nat):=[(2,6,3),(2,7,4),(7,82,62),(11,81,75),(11,71,78),(11,70,82),(11,69,83),(11,80,85),(11,45,86),(11,79,87),(11,78,88),(13,82,104),(14,82,105),(15,82,106),(16,82,108),(17,82,109),(18,82,110)]
noncomputable def JW (k n:Nat):Option Nat:=tri zdc k n
noncomputable def zoc:List (Nat×Nat×Nat):=[(0,0,1),(1,0,1),(2,0,2),(3,0,42),(4,0,43),(5,0,53),(6,0,61),(11,0,74),(12,0,98)]
noncomputable def yz (k:Nat):Option Nat:=tri zoc k 0
noncomputable def zb6:List (Option AV):=[some (.int 16),some (.int 1),some (.int 6),some (.int 7),some (.int 24),some (.int 2),some (.int 3),some (.int 4),some (.int 5),some (.int 8),some (.int 9),some (.int 11),some (.int 10),some (.cst 1),some (.int 0),some (.int 14),some (.cst 0),some (.int 5),some (.int 1),some (.int 11),some (.int 8),some (.int 8),some (.int 1),some (.int 9),some (.int 10),some (.int 2),some (.int 3),some (.tup [.int 4,.int 0]),some (.int 4),some (.int 2),some (.int 6),some (.int 3),some (.int 5),some (.int 12),some (.int 13),some (.int 4),some (.int 5),some (.int 6),some (.int 7),some (.int (-1)),some (.int 2),some (.int 3),some (.int 16),some (.int 3),some (.int 4),some (.int 2),some (.int (-1)),some (.int 1),some (.int (-1)),some (.int 0),some (.int 2),some (.int 7),some (.int (-2)),some (.int 3),some (.int 2),some (.tup [.int 0,.int 0]),some (.int 1),some (.int 8),some (.int 21),some (.str [79,98,106,101,99,116,32,114,101,102,101,114,101,110,99,101,32,110,111,116,32,115,101,116,32,116,111,32,97,110,32,105,110,115,116,97,110,99,101,32,111,102,32,97,110,32,111,98,106,101,99,116,46]),some (.int 5),some (.cst 2),some (.int 22),some (.str [73,110,100,101,120,32,119,97,115,32,111,117,116,115,105,100,101,32,116,104,101,32,98,111,117,110,100,115,32,111,102,32,116,104,101,32,97,114,114,97,121,46]),some (.int 26),some (.str [65,114,105,116,104,109,101,116,105,99,32,111,112,101,114,97,116,105,111,110,32,114,101,115,117,108,116,101,100,32,105,110,32,97,110,32,111,118,101,114,102,108,111,119,46]),some (.int 65536),some (.int 30),some (.str [73,110,115,117,102,102,105,99,105,101,110,116,32,109,101,109,111,114,121,32,116,111,32,99,111,110,116,105,110,117,101,32,116,104,101,32,101,120,101,99,117,116,105,111,110,32,111,102,32,116,104,101,32,112,114,111,103,114,97,109,46]),some (.int 27),some (.str [65,116,116,101,109,112,116,101,100,32,116,111,32,97,99,99,101,115,115,32,97,110,32,101,108,101,109,101,110,116,32,97,115,32,97,32,116,121,112,101,32,105,110,99,111,109,112,97,116,105,98,108,101,32,119,105,116,104,32,116,104,101,32,97,114,114,97,121,46]),some (.int (-2)),none,some (.tup [.str [98],.str [97],.str [111],.str [99],.str [105],.str [116],.str [105,52],.str [117,52],.str [117,49],.str [105,49],.str [98,111,111,108],.str [99,104,97,114],.str [105,50],.str [117,50],.str [101],.str [105,56],.str [110,105,110,116],.str [115],.str [97,91,93],.str [117,52,91,93],.str [117,56],.str [115,50]])]
noncomputable def KS (i:Nat):Option AV:=(nth zb6 i).bind id
noncomputable def JK (scr:List Int):Kb:=⟨scr,KS,JW,yz⟩
noncomputable def zfS:Nat:=148
end Mine
end
section
namespace Mine
open PySem PySem.W PyProof.Rows
theorem VN {x y:AV}:AV.eqb x y=true↔x=y:=⟨AV.eqb_eq,fun e=>e ▸ AV.eqb_refl x⟩
theorem zpF {x y:List AV}:AV.eqbs x y=true↔x=y:=⟨AV.eqbs_eq,fun e=>e ▸ AV.eqbs_refl x⟩
theorem jp (x y:AV):AV.eqb x y=decide (x=y):=by
 by_cases h:x=y
 ·rw [decide_eq_true h]; exact VN.mpr h
 ·rw [decide_eq_false h]; exact Bool.eq_false_iff.mpr fun e=>h (VN.mp e)
noncomputable abbrev Bt:=List (Addr×Option Addr)
noncomputable def zh (cs:List Nat):Str:=⟨cs.toArray⟩
theorem KQ {a b:List Nat} (h:zh a=zh b):a=b:=by
 unfold zh at h
 injection h with h
 simpa using h
structure Cx where
 prog:Program
 w:World
 h₀:Heap
 cls:Nat→Addr
 cst:Nat→Addr
 fld:Nat→Str
 fn:Nat→Addr
 gl:Addr
 bi:Addr
 K:Frag
mutual
inductive VR (c:Cx) (h:Heap) (β:Bt):AV→Value→Prop
 | none:VR c h β .none .none
 | bool (b:Bool):VR c h β (.bool b) (.bool b)
 | int (i:Int) (t:Tok):VR c h β (.int i) (.int i t)
 | str (cs:List Nat) (t:Tok):VR c h β (.str cs) (.str (zh cs) t)
 | obj {r:Nat} {a:Addr} {d:Option Addr}:β[r]?=some (a,d)→VR c h β (.obj r) (.ref a)
 | cst (k:Nat):VR c h β (.cst k) (.ref (c.cst k))
 | tup {xs:List AV} {vs:List Value} {a:Addr}:IsTup h a vs.toArray→VRs c h β xs vs→VR c h β (.tup xs) (.ref a)
inductive VRs (c:Cx) (h:Heap) (β:Bt):List AV→List Value→Prop
 | nil:VRs c h β [] []
 | cons {x:AV} {v:Value} {xs:List AV} {vs:List Value}:VR c h β x v→VRs c h β xs vs→VRs c h β (x::xs) (v::vs)
end
noncomputable def zw (h h':Heap):Prop:=∀ b its,IsTup h b its→IsTup h' b its
theorem zw.refl (h:Heap):zw h h:=fun _ _ e=>e
theorem zw.trans {a b d:Heap} (x:zw a b) (y:zw b d):zw a d:=fun r p e=>y r p (x r p e)
noncomputable def Pre (β β':Bt):Prop:=∀ (r:Nat) p,β[r]?=some p→β'[r]?=some p
theorem Pre.refl (β:Bt):Pre β β:=fun _ _ e=>e
theorem Pre.trans {a b d:Bt} (x:Pre a b) (y:Pre b d):Pre a d:=fun r p e=>y r p (x r p e)
theorem Pre.nil (β:Bt):Pre [] β:=fun _ _ e=>by simp at e
theorem Pre.snoc (β γ:Bt):Pre β (β++γ):=fun r p e=>by
 have:=(List.getElem?_eq_some_iff.mp e).1
 rw [List.getElem?_append_left this]; exact e
theorem zw.of_keep {h h':Heap} (k:∀ b o,h.get? b=some o→h'.get? b=some o):zw h h' :=
 fun b _ x=>by obtain ⟨o,ho,r⟩:=x; exact ⟨o,k b o ho,r⟩
theorem zw.of_but {h h':Heap} {a:Addr} {o:Obj} (ho:h.get? a=some o) (hn:o.cls≠.type "tuple"∨∀ its n,o.data≠.seq its n) (k:∀ b x,b≠a→h.get? b=some x→h'.get? b=some x):zw h h' :=
 fun b its x=>by
  obtain ⟨o',ho',hc,n,hd⟩:=x
  refine ⟨o',k b o' (fun q=>?_) ho',hc,n,hd⟩
  subst q
  obtain rfl:o=o':=Option.some.inj (ho.symm.trans ho')
  rcases hn with hn | hn
  ·exact hn hc
  ·exact hn _ _ hd
section
variable {c:Cx} {h h':Heap} {β β':Bt}
theorem VR.mono (k:zw h h') (p:Pre β β') {x:AV} {v:Value} (a:VR c h β x v):VR c h' β' x v :=
 a.rec (motive_1:=fun x v _=>VR c h' β' x v) (motive_2:=fun xs vs _=>VRs c h' β' xs vs) .none .bool .int .str (fun e=>.obj (p _ _ e)) .cst (fun t _ r=>.tup (k _ _ t) r) .nil fun _ _ a r=>.cons a r
@[elab_as_elim] theorem VRs.ind {Q:List AV→List Value→Prop} {xs:List AV} {vs:List Value} (a:VRs c h β xs vs) (n:Q [] []) (s:∀ {x v xs vs},VR c h β x v→VRs c h β xs vs→Q xs vs→Q (x::xs) (v::vs)):Q xs vs :=
 a.rec (motive_1:=fun _ _ _=>True) (motive_2:=fun xs vs _=>Q xs vs) ⟨⟩ (fun _=>⟨⟩) (fun _ _=>⟨⟩) (fun _ _=>⟨⟩) (fun _=>⟨⟩) (fun _=>⟨⟩) (fun _ _ _=>⟨⟩) n fun a r _ q=>s a r q
theorem VRs.mono (k:zw h h') (p:Pre β β') {x:List AV} {v:List Value} (a:VRs c h β x v):VRs c h' β' x v :=
 a.ind .nil fun a _ r=>.cons (a.mono k p) r
theorem VRs.length {xs:List AV} {vs:List Value} (a:VRs c h β xs vs):vs.length=xs.length:=a.ind rfl fun _ _ q=>congrArg (· + 1) q
theorem VRs.get {xs:List AV} {vs:List Value} (a:VRs c h β xs vs) {i:Nat} {x:AV} (e:xs[i]?=some x):∃ v,vs[i]?=some v∧VR c h β x v:=by
 suffices z:∀ i,xs[i]?=some x→∃ v,vs[i]?=some v∧VR c h β x v from z i e
 refine a.ind (fun _ e=>by cases e) fun a r q i e=>?_
 induction i using Nat.casesOn with
 | zero=>exact ⟨_,rfl,Option.some.inj e ▸ a⟩
 | succ i=>exact q i e
theorem VRs.append {xs:List AV} {vs:List Value} (a:VRs c h β xs vs) {ys:List AV} {us:List Value} (r:VRs c h β ys us):VRs c h β (xs++ys) (vs++us):=a.ind r fun a _ q=>.cons a q
theorem VRs.one {x:AV} {v:Value} (a:VR c h β x v):VRs c h β [x] [v]:=.cons a .nil
theorem VRs.set {xs:List AV} {vs:List Value} (a:VRs c h β xs vs) {x:AV} {v:Value} (q:VR c h β x v) (i:Nat):VRs c h β (xs.set i x) (vs.set i v) :=
 VRs.ind (Q:=fun xs vs=>∀ i,VRs c h β (xs.set i x) (vs.set i v)) a (fun _=>.nil) (fun {y w xs vs} a r z i=>Nat.rec (motive:=fun i=>VRs c h β ((y::xs).set i x) ((w::vs).set i v)) (.cons q r) (fun i _=>.cons a (z i)) i) i
theorem VRs.dropLast {xs:List AV} {vs:List Value} (a:VRs c h β xs vs):VRs c h β xs.dropLast vs.dropLast:=by
 refine a.ind .nil fun a r q=>?_
 cases r with
 | nil=>exact .nil
 | cons=>exact .cons a q
theorem VRs.getLast {xs:List AV} {vs:List Value} (a:VRs c h β xs vs) {x:AV} (e:xs.getLast?=some x):∃ v,vs.getLast?=some v∧VR c h β x v:=by
 revert e
 refine a.ind (fun e=>by cases e) fun a r q e=>?_
 cases r with
 | nil=>exact ⟨_,rfl,Option.some.inj e ▸ a⟩
 | cons=>rw [List.getLast?_cons_cons] at e ⊢; exact q e
theorem VRs.rep {xs:List AV} {vs:List Value} (a:VRs c h β xs vs):∀ n:Nat,VRs c h β (List.replicate n xs).flatten (List.replicate n vs).flatten
 | 0=>.nil
 | n + 1=>by
  rw [List.replicate_succ,List.replicate_succ,List.flatten_cons,List.flatten_cons]
  exact a.append (VRs.rep a n)
end
inductive Hit (c:Cx) (h:Heap) (β:Bt):Option AV→Option Value→Prop
 | miss:Hit c h β none none
 | hit {x:AV} {v:Value}:VR c h β x v→Hit c h β (some x) (some v)
inductive FR (c:Cx) (h:Heap) (β:Bt):List DictEntry→List (Nat×AV)→Prop
 | nil:FR c h β [] []
 | cons {e:DictEntry} {es:List DictEntry} {n:Nat} {t:Tok} {x:AV} {fs:List (Nat×AV)}:e.key=.str (c.fld n) t→VR c h β x e.val→FR c h β es fs→FR c h β (e::es) ((n,x)::fs)
inductive DR (c:Cx) {K:Type} (enc:K→AV) (h:Heap) (β:Bt):List (AV×AV)→List (K×Value)→Prop
 | nil:DR c enc h β [] []
 | cons {k:K} {x:AV} {v:Value} {es:List (AV×AV)} {kvs:List (K×Value)}:VR c h β x v→DR c enc h β es kvs→DR c enc h β ((enc k,x)::es) ((k,v)::kvs)
section
variable {c:Cx} {h h':Heap} {β β':Bt}
theorem FR.mono (k:zw h h') (p:Pre β β') {es:List DictEntry} {fs:List (Nat×AV)} (a:FR c h β es fs):FR c h' β' es fs :=
 a.rec (motive:=fun es fs _=>FR c h' β' es fs) .nil fun e b _ r=>.cons e (b.mono k p) r
theorem DR.mono {K:Type} {enc:K→AV} (k:zw h h') (p:Pre β β') {es:List (AV×AV)} {fs:List (K×Value)} (a:DR c enc h β es fs):DR c enc h' β' es fs :=
 a.rec (motive:=fun es fs _=>DR c enc h' β' es fs) .nil fun b _ r=>.cons (b.mono k p) r
theorem DR.length {K:Type} {enc:K→AV} {es:List (AV×AV)} {fs:List (K×Value)} (a:DR c enc h β es fs):fs.length=es.length :=
 a.rec (motive:=fun es fs _=>fs.length=es.length) rfl fun _ _ q=>congrArg (· + 1) q
theorem DR.look {K:Type} [DecidableEq K] {enc:K→AV} (inj:∀ a b,enc a=enc b→a=b) (k:K) {es:List (AV×AV)} {fs:List (K×Value)} (z:DR c enc h β es fs):Hit c h β (ze (enc k) es) (valueAt fs k):=by
 induction z with
 | nil=>exact .miss
 | @cons j x v es kvs a r ih =>
  by_cases e:j=k
  ·subst e
   rw [show ze (enc j) ((enc j,x)::es)=(match AV.eqb (enc j) (enc j) with | true=>some x | false=>ze (enc j) es) from rfl,AV.eqb_refl]
   unfold valueAt
   rw [List.find?_cons,show decide ((j,v).1=j)=true from decide_eq_true rfl]
   exact .hit a
  ·rw [show ze (enc k) ((enc j,x)::es)=(match AV.eqb (enc j) (enc k) with | true=>some x | false=>ze (enc k) es) from rfl,Bool.eq_false_iff.mpr fun q=>e (inj _ _ (VN.mp q))]
   unfold valueAt
   rw [List.find?_cons,show decide ((j,v).1=k)=false from decide_eq_false e]
   exact ih
theorem DR.put {K:Type} [DecidableEq K] {enc:K→AV} (inj:∀ a b,enc a=enc b→a=b) {k:K} {x:AV} {v:Value} (hx:VR c h β x v):∀ {es:List (AV×AV)} {fs:List (K×Value)},DR c enc h β es fs→(fs.map (·.1)).Nodup →
  DR c enc h β (zB (enc k) x es) (stored fs k v):=by
 have ins:∀ {es:List (AV×AV)} {fs:List (K×Value)},DR c enc h β es fs→(fs.any fun kv=>decide (kv.1=k))=false→DR c enc h β (zB (enc k) x es) (fs++[(k,v)]):=by
  intro es fs r
  induction r with
  | nil=>intro _; exact .cons hx .nil
  | @cons j y u es kvs a r ih =>
   intro e
   rw [List.any_cons,Bool.or_eq_false_iff] at e
   have e1:j≠k:=of_decide_eq_false e.1
   have e':AV.eqb (enc j) (enc k)=false:=Bool.eq_false_iff.mpr fun q=>e1 (inj _ _ (VN.mp q))
   show DR c enc h β (match AV.eqb (enc j) (enc k) with | true=>(enc j,x)::es | false=>(enc j,y)::zB (enc k) x es) _
   rw [e']
   exact .cons a (ih e.2)
 have upd:∀ {es:List (AV×AV)} {fs:List (K×Value)},DR c enc h β es fs→(fs.map (·.1)).Nodup→(fs.any fun kv=>decide (kv.1=k))=true→DR c enc h β (zB (enc k) x es) (fs.map fun kv=>if kv.1=k then (kv.1,v) else kv):=by
  intro es fs r
  induction r with
  | nil=>intro _ e; simp at e
  | @cons j y u es kvs a r ih =>
   intro nd e
   rw [List.map_cons,List.nodup_cons] at nd
   show DR c enc h β (match AV.eqb (enc j) (enc k) with | true=>(enc j,x)::es | false=>(enc j,y)::zB (enc k) x es) _
   rw [List.map_cons]
   by_cases e1:j=k
   ·subst e1
    rw [AV.eqb_refl]
    simp only [if_true]
    rw [map_store_of_not_mem kvs j v nd.1]
    exact .cons hx r
   ·have e':AV.eqb (enc j) (enc k)=false:=Bool.eq_false_iff.mpr fun q=>e1 (inj _ _ (VN.mp q))
    rw [e']
    simp only [e1,if_false]
    rw [List.any_cons] at e
    simp only [e1,decide_false,Bool.false_or] at e
    exact .cons a (ih nd.2 e)
 intro es fs r nd
 unfold stored
 cases q:fs.any fun kv=>decide (kv.1=k) with
 | true=>rw [if_pos rfl]; exact upd r nd q
 | false=>rw [if_neg (by decide)]; exact ins r q
end
end Mine
end
section
namespace Mine
open PySem PySem.W PyProof.Rows PySem.Calls
mutual
noncomputable def toP:AV→PyData
 | .int i=>.int i
 | .str cs=>.str (zh cs)
 | .tup xs=>.tuple (Vk xs)
 | .bool b=>.bool b
 | _=>.none
noncomputable def Vk:List AV→List PyData
 | []=>[]
 | x::xs=>toP x::Vk xs
end
section
variable {c:Cx} {h:Heap} {β:Bt}
@[elab_as_elim] theorem VR.noneI {v:Value} {P:Value→Prop} (r:VR c h β .none v) (k:P .none):P v:=by cases r; exact k
@[elab_as_elim] theorem VR.intI {i:Int} {v:Value} {P:Value→Prop} (r:VR c h β (.int i) v) (k:∀ t,P (.int i t)):P v:=by cases r; exact k _
@[elab_as_elim] theorem VR.strI {cs:List Nat} {v:Value} {P:Value→Prop} (r:VR c h β (.str cs) v) (k:∀ t,P (.str (zh cs) t)):P v:=by cases r; exact k _
@[elab_as_elim] theorem VR.tupI {xs:List AV} {v:Value} {P:Value→Prop} (r:VR c h β (.tup xs) v) (k:∀ a vs,IsTup h a vs.toArray→VRs c h β xs vs→P (.ref a)):P v:=by cases r with | tup t r=>exact k _ _ t r
@[elab_as_elim] theorem VRs.consI {x:AV} {xs:List AV} {us:List Value} {P:List Value→Prop} (r:VRs c h β (x::xs) us) (k:∀ u us,VR c h β x u→VRs c h β xs us→P (u::us)):P us:=by cases r with | cons a r=>exact k _ _ a r
@[elab_as_elim] theorem yF {P:Nat→AV→Prop} (i:∀ n i,P n (.int i)) (s:∀ n cs,yi 0 (.str cs)=true→P n (.str cs)) (t:∀ n xs,(∀ x∈xs,yi n x=true)→(∀ x∈xs,P n x)→P (n + 1) (.tup xs)) (n:Nat) :
  ∀ (x:AV),yi n x=true→P n x:=by
 induction n with
 | zero =>
  intro x h
  induction x using AV.casesOn with
  | int=>exact i _ _
  | str=>exact s _ _ h
  | _=>exact Bool.noConfusion h
 | succ n ih =>
  intro x h
  induction x using AV.casesOn with
  | int=>exact i _ _
  | str=>exact s _ _ h
  | tup xs =>
   have h:=List.all_eq_true.mp (h:xs.all (yi n)=true)
   exact t _ _ h fun x m=>ih x (h x m)
  | _=>exact Bool.noConfusion h
@[elab_as_elim] theorem yB {P:Nat→AV→Prop} (o:∀ n,P n .none) (i:∀ n i,P n (.int i)) (s:∀ n cs,yi 0 (.str cs)=true→P n (.str cs)) (t:∀ n xs,(∀ x∈xs,zg n x=true)→(∀ x∈xs,P n x)→P (n + 1) (.tup xs)) (n:Nat) :
  ∀ (x:AV),zg n x=true→P n x:=by
 induction n with
 | zero =>
  intro x h
  induction x using AV.casesOn with
  | none=>exact o _
  | int=>exact i _ _
  | str=>exact s _ _ h
  | _=>exact Bool.noConfusion h
 | succ n ih =>
  intro x h
  induction x using AV.casesOn with
  | none=>exact o _
  | int=>exact i _ _
  | str=>exact s _ _ h
  | tup xs =>
   have h:=List.all_eq_true.mp (h:xs.all (zg n)=true)
   exact t _ _ h fun x m=>ih x (h x m)
  | _=>exact Bool.noConfusion h
theorem VRs.readsAll {xs:List AV} {vs:List Value} (r:VRs c h β xs vs) (q:∀ x∈xs,∀ v,VR c h β x v→∃ as,Reads h v (toP x) as):∃ as,ReadsAll h vs (Vk xs) as:=by
 revert q
 refine r.ind (fun _=>⟨_,ReadsAll.nil⟩) fun a _ ih q=>?_
 obtain ⟨as,z⟩:=q _ (.head _) _ a
 obtain ⟨bs,p⟩:=ih fun d hm=>q d (.tail _ hm)
 exact ⟨_,ReadsAll.cons z p⟩
theorem VR.reads (n:Nat) {x:AV} {v:Value} (r:VR c h β x v) (k:zg n x=true):∃ as,Reads h v (toP x) as:=by
 suffices z:∀ v,VR c h β x v→∃ as,Reads h v (toP x) as from z v r
 refine yB (fun _ v r=>r.noneI ⟨_,Reads.none⟩) (fun _ i v r=>r.intI fun t=>⟨_,Reads.int i t⟩) (fun _ i _ v r=>r.strI fun t=>⟨_,Reads.str _ t⟩) (fun n xs _ ih v r=>r.tupI fun a vs t r=>?_) n x k
 obtain ⟨as,q⟩:=r.readsAll ih
 obtain ⟨o,ho,hc,m,hd⟩:=t
 exact ⟨as,reads_tuple_at ho hc hd q⟩
end
theorem JS (n:Nat) (x:AV) (h:zg n x=true):(toP x).canLay0=true∧(toP x).depth≤n:=by
 refine yB (fun _=>⟨rfl,Nat.zero_le _⟩) (fun _ _=>⟨rfl,Nat.zero_le _⟩) (fun _ cs h=>⟨?_,Nat.zero_le _⟩) (fun n xs hx ih=>?_) n x h
 ·show PyData.strOk (zh cs)=true
  unfold PyData.strOk zh
  rw [← Array.all_toList,List.all_eq_true]
  intro x hx
  exact decide_eq_true (Nat.lt_of_lt_of_le (of_decide_eq_true (List.all_eq_true.mp ((Bool.and_eq_true _ _).mp h).2 x hx)) (by decide))
 ·have:PyData.canLayAll0 (Vk xs)=true∧PyData.depthAll (Vk xs)≤n:=by
   clear h hx
   induction xs with
   | nil=>exact ⟨rfl,Nat.zero_le _⟩
   | cons d ds hi =>
    have h1:=ih d (.head _)
    have h2:=hi fun e he=>ih e (.tail _ he)
    exact ⟨(Bool.and_eq_true _ _).mpr ⟨h1.1,h2.1⟩,Nat.max_le.mpr ⟨h1.2,h2.2⟩⟩
  exact ⟨this.1,Nat.succ_le_succ this.2⟩
theorem ye {a:Bool} {p:Prop} (h:a=false) (g:¬p):a=true↔p:=by subst h; exact ⟨fun h=>Bool.noConfusion h,fun h=>absurd h g⟩
theorem zcq (n m:Nat) (x y:AV) (h1:zg n x=true) (h2:zg m y=true):PyData.eqv (toP x) (toP y)=true↔x=y:=by
 revert m y
 refine yB (fun n m y h2=>?_) (fun n i m y h2=>?_) (fun n cs h m y h2=>?_) (fun n xs hx ih m y h2=>?_) n x h1
 ·exact yB (P:=fun _ y=>PyData.eqv .none (toP y)=true↔.none=y) (fun _=>⟨fun _=>rfl,fun _=>rfl⟩) (fun _ _=>ye rfl nofun) (fun _ _ _=>ye rfl nofun) (fun _ _ _ _=>ye rfl nofun) m y h2
 ·exact yB (P:=fun _ y=>PyData.eqv (.int i) (toP y)=true↔.int i=y) (fun _=>ye rfl nofun) (fun _ j=>⟨fun h=>congrArg _ (eq_of_beq h),fun h=>AV.int.inj h ▸ beq_self_eq_true i⟩) (fun _ _ _=>ye rfl nofun) (fun _ _ _ _=>ye rfl nofun) m y h2
 ·exact yB (P:=fun _ y=>PyData.eqv (.str (zh cs)) (toP y)=true↔.str cs=y) (fun _=>ye rfl nofun) (fun _ _=>ye rfl nofun) (fun _ j _=>⟨fun h=>congrArg _ (KQ (eq_of_beq h)),fun h=>AV.str.inj h ▸ beq_self_eq_true (zh cs)⟩) (fun _ _ _ _=>ye rfl nofun) m y h2
 ·refine yB (P:=fun _ y=>PyData.eqv (.tuple (Vk xs)) (toP y)=true↔.tup xs=y) (fun _=>ye rfl nofun) (fun _ _=>ye rfl nofun) (fun _ _ _=>ye rfl nofun) (fun m ys hy ih2=>?_) m y h2
  have:PyData.eqvAll (Vk xs) (Vk ys)=true↔xs=ys:=by
   clear h1 h2 hx ih2
   induction xs generalizing ys with
   | nil=>induction ys using List.casesOn with
    | nil=>exact ⟨fun _=>rfl,fun _=>rfl⟩
    | cons=>exact ye rfl nofun
   | cons d ds hi =>
    induction ys using List.casesOn with
    | nil=>exact ye rfl nofun
    | cons e es =>
     have q1:=ih d (.head _) m e (hy e (.head _))
     have q2:=hi (fun x hx=>ih x (.tail _ hx)) es fun x hx=>hy x (.tail _ hx)
     exact ⟨fun h=>let h:=(Bool.and_eq_true _ _).mp h; by rw [q1.mp h.1,q2.mp h.2],fun h=>(Bool.and_eq_true _ _).mpr ⟨q1.mpr (List.cons.inj h).1,q2.mpr (List.cons.inj h).2⟩⟩
  exact ⟨fun h=>congrArg _ (this.mp h),fun h=>this.mpr (AV.tup.inj h)⟩
theorem VP {n m:Nat} {x y:AV} (h1:zg n x=true) (h2:zg m y=true):PyData.eqv (toP x) (toP y)=AV.eqb x y:=by
 rw [jp]
 by_cases h:x=y
 ·rw [decide_eq_true h]; exact (zcq n m x y h1 h2).mpr h
 ·rw [decide_eq_false h]; exact Bool.eq_false_iff.mpr fun e=>h ((zcq n m x y h1 h2).mp e)
theorem zeU {n m:Nat} {xs ys:List AV} (h1:xs.all (zg n)=true) (h2:ys.all (zg m)=true):PyData.eqvAll (Vk xs) (Vk ys)=AV.eqbs xs ys :=
 VP (n:=n + 1) (m:=m + 1) (x:=.tup xs) (y:=.tup ys) h1 h2
theorem Zz {n:Nat} {x:AV} (hn:n≤60) (h:zg n x=true):SeqAt.shaped (toP x)=true:=by
 have l:=JS n x h
 unfold SeqAt.shaped
 rw [l.1,Bool.true_and]
 exact decide_eq_true (Nat.le_trans l.2 (Nat.le_trans hn (by decide)))
theorem zap {n:Nat} {xs:List AV} (h:xs.all (zg n)=true):PyData.canLayAll0 (Vk xs)=true∧PyData.depthAll (Vk xs)≤n :=
 have l:=JS (n + 1) (.tup xs) h
 ⟨l.1,Nat.le_of_succ_le_succ l.2⟩
end Mine
end
section
namespace Mine
open PySem PySem.W PyProof.Rows PySem.Calls
open Sem (wp)
mutual
noncomputable def KG (w:World):AV→Int
 | .int i=>hashInt i
 | .str cs=>hashStr w (zh cs)
 | .tup xs=>reduceHash (Builtin.Tuple.tupleHashOf (JY w xs))
 | _=>0
noncomputable def JY (w:World):List AV→List Int
 | []=>[]
 | x::xs=>KG w x::JY w xs
end
mutual
noncomputable def Jc:AV→Nat
 | .tup xs=>Js xs + 1
 | _=>1
noncomputable def Js:List AV→Nat
 | []=>0
 | x::xs=>Jc x + Js xs
end
section
variable {prog:Program} {w:World} {c:Cx}
theorem zlk (w:World) (k:AV) (d:List AV):JY w (d++[k])=JY w d++[KG w k]:=by
 induction d with
 | nil=>rfl
 | cons x d ih=>exact congrArg (KG w x::·) ih
theorem zlx (k:AV) (d:List AV):Js (d++[k])=Js d + Jc k:=by
 induction d with
 | nil=>exact Nat.add_comm (Jc k) 0
 | cons x d ih=>exact (congrArg (Jc x + ·) ih).trans (Nat.add_assoc ..).symm
inductive HTs (w:World) (c:Cx) (s:Shared) (xs:List AV) (rest:List Value) (b:Array Int) (s':Shared):Prop
 | mk (done left:List AV) (e:xs=done++left) (r:VRs c s.heap [] left rest) (hb:b.toList=JY w done) (hs:s'={ s with toks:=s.toks + Js done })
theorem zbH {A:Around} {E:Value→Shared→Prop} {s:Shared} {xs:List AV} {a:Addr} {vs:List Value} {Q:Int→Shared→Prop} (hu:A.units < cLine) (t:IsTup s.heap a vs.toArray)
  (r:VRs c s.heap [] xs vs) (ih:∀ (s':Shared) (x:AV) (v:Value) (Q:Int→Shared→Prop) (E:Value→Shared→Prop),s'.heap=s.heap→x∈xs→VR c s.heap [] x v→Q (KG w x) { s' with toks:=s'.toks + Jc x }→wpAny (model prog w) A.in1 (pyHash v) Q E s')
  (h:Q (KG w (.tup xs)) { s with toks:=s.toks + Jc (.tup xs) }):wpAny (model prog w) A (pyHash (.ref a)) Q E s:=by
 obtain ⟨o,ho,hc,n,hd⟩:=t
 have hT:s.TypeIs (.ref a) "tuple":=⟨o,ho,hc⟩
 unfold pyHash pyHashByItsType
 refine wpAny_bind (wpAny_cRoomFor_or (.inr hu) ?_)
 refine wpAny_bind (wpAny_specialOf hT F.slot_tuple_hash.lookup ?_)
 show wpAny _ _ (if (some (Value.builtin "tuple.__hash__") == some Value.none)=true then _ else _) Q E s
 rw [if_neg (by rw [beq_builtin_none]; exact Bool.false_ne_true)]
 refine wpAny_bind (wpAny_specialOf hT F.slot_tuple_hash.lookup ?_)
 show wpAny _ _ (callSpecialIfBoundUnlessNone? (.ref a) "__hash__" _ >>= _) Q E s
 refine wpAny_bind (wpAny_callSpecialIfBoundUnlessNone?_slot hT F.slot_tuple_hash (wpAny_call_entry F.slot_tuple_hash hT F.entry_tuple_hash ?_ (F.args_tuple_hash_1 _)))
 show wpAny _ _ (Builtin.Tuple.tupleItemsOf (.ref a) >>= _) _ _ s
 refine wpAny_bind (wpAny_tupleItemsOf ho hd ?_)
 refine wpAny_bind ?_
 rw [← Array.forIn_toList]
 refine wpAny_forIn_list _ (fun rest b s'=>HTs w c s xs rest b s') _ ?_ ?_ _ _ ⟨[],xs,rfl,r,rfl,rfl⟩
 ·intro x rest b s' z
  obtain ⟨done,left,rfl,hl,hb,rfl⟩:=z
  cases hl with
  | @cons k _ ks' _ h1 hl' =>
   exact wpAny_bind (ih { s with toks:=s.toks + Js done } k x _ _ rfl (List.mem_append_right _ (.head _)) h1
    (wpAny_pure ⟨done++[k],ks',List.append_cons ..,hl',by rw [Array.toList_push,hb,zlk],by rw [zlx,Nat.add_assoc]⟩))
 ·intro b s' z
  obtain ⟨done,left,rfl,hl,hb,rfl⟩:=z
  cases hl
  rw [List.append_nil] at h
  show wpAny _ _ (retInt (Builtin.Tuple.tupleHashOf b.toList)) _ _ _
  rw [hb]
  refine wpAny_ret_mkInt ?_
  have h:Q (if (decide (-(2:Int) ^ 63≤Builtin.Tuple.tupleHashOf (JY w done))&&decide (Builtin.Tuple.tupleHashOf (JY w done) < 2 ^ 63))=true then _ else _) { s with toks:=s.toks + Js done + 1 }:=h
  generalize Builtin.Tuple.tupleHashOf (JY w done)=v at h
  show wpAny _ _ (if (decide (-(2:Int) ^ 63≤v)&&decide (v < 2 ^ 63))=true then _ else _) Q E _
  by_cases hr:(decide (-(2:Int) ^ 63≤v)&&decide (v < 2 ^ 63))=true
  ·rw [if_pos hr]
   rw [if_pos hr] at h
   exact wpAny_pure h
  ·rw [if_neg hr]
   rw [if_neg hr] at h
   exact wpAny_bind (wpAny_rule (wpAny_pure h))
theorem zf8 (n:Nat) {A:Around} {E:Value→Shared→Prop} {s:Shared} {x:AV} {v:Value} {Q:Int→Shared→Prop} (hu:A.units + n < cLine) (hk:yi n x=true) (r:VR c s.heap [] x v)
  (h:Q (KG w x) { s with toks:=s.toks + Jc x }):wpAny (model prog w) A (pyHash v) Q E s:=by
 suffices z:∀ (A:Around) E s v Q,A.units + n < cLine→VR c s.heap [] x v→Q (KG w x) { s with toks:=s.toks + Jc x }→wpAny (model prog w) A (pyHash v) Q E s from z A E s v Q hu r h
 refine yF (fun _ i A E s v Q _ r h=>?_) (fun _ cs _ A E s v Q _ r h=>?_) (fun n xs hx ih A E s v Q hu r h=>?_) n x hk
 ·exact r.intI fun t=>wpAny_pyHash_int h
 ·exact r.strI fun t=>wpAny_pyHash_str h
 ·refine r.tupI fun a vs t r=>zbH (Nat.lt_of_le_of_lt (Nat.le_add_right _ _) hu) t r (fun s' x v Q E e hm hr hq=>?_) h
  refine ih x hm A.in1 E s' v Q ?_ (e ▸ hr) hq
  show A.units + 1 + n < cLine
  rw [Nat.add_right_comm]; exact hu
theorem zR (n:Nat) (x:AV) (h:yi n x=true):zg n x=true :=
 yF (fun n _=>by cases n <;> rfl) (fun n _ h=>by cases n <;> exact h) (fun _ _ _ ih=>List.all_eq_true.mpr ih) n x h
theorem VRs.uniq {h:Heap} {xs:List AV} {vs:List Value} (r:VRs c h [] xs vs):∀ (ys:List AV),VRs c h [] ys vs→(∀ x∈xs,∀ v,∀ y∈ys,VR c h [] x v→VR c h [] y v→x=y)→xs=ys:=by
 refine r.ind (fun _ b _=>by cases b; rfl) fun a _ ih _ b q=>?_
 cases b with
 | cons b1 b2=>rw [q _ (.head _) _ _ (.head _) a b1,ih _ b2 fun x hx v y hy=>q x (.tail _ hx) v y (.tail _ hy)]
theorem VR.intN {h:Heap} {β:Bt} {i:Int} {u:Value} {P:Prop} (q:VR c h β (.int i) u) (e:∀ t,u=.int i t→False):P:=(q.intI (P:=fun u=>(∀ t,u=.int i t→False)→False) (fun t e=>e t rfl) e).elim
theorem VR.strN {h:Heap} {β:Bt} {i:List Nat} {u:Value} {P:Prop} (q:VR c h β (.str i) u) (e:∀ t,u=.str (zh i) t→False):P:=(q.strI (P:=fun u=>(∀ t,u=.str (zh i) t→False)→False) (fun t e=>e t rfl) e).elim
theorem VR.tupN {h:Heap} {β:Bt} {i:List AV} {u:Value} {P:Prop} (q:VR c h β (.tup i) u) (e:∀ t,u=.ref t→False):P:=(q.tupI (P:=fun u=>(∀ t,u=.ref t→False)→False) (fun a _ _ _ e=>e a rfl) e).elim
theorem ziK (n m:Nat) {h:Heap} {x y:AV} {v:Value} (hx:yi n x=true) (hy:yi m y=true) (r:VR c h [] x v) (q:VR c h [] y v):x=y:=by
 suffices z:∀ m y v,yi m y=true→VR c h [] x v→VR c h [] y v→x=y from z m y v hy r q
 refine yF (fun _ i m y v hy r q=>?_) (fun _ cs _ m y v hy r q=>?_) (fun n xs hx ih m y v hy r q=>?_) n x hx
 ·obtain ⟨t,rfl⟩:∃ t,v=.int i t:=r.intI fun t=>⟨t,rfl⟩
  exact yF (P:=fun _ y=>VR c h [] y (.int i t)→AV.int i=y) (fun _ j q=>by cases q; rfl) (fun _ _ _ q=>q.strN fun _ e=>Value.noConfusion e) (fun _ _ _ _ q=>q.tupN fun _ e=>Value.noConfusion e) m y hy q
 ·obtain ⟨t,rfl⟩:∃ t,v=.str (zh cs) t:=r.strI fun t=>⟨t,rfl⟩
  refine yF (P:=fun _ y=>VR c h [] y (.str (zh cs) t)→AV.str cs=y) (fun _ j q=>q.intN fun _ e=>Value.noConfusion e) (fun _ ds _ q=>?_) (fun _ _ _ _ q=>q.tupN fun _ e=>Value.noConfusion e) m y hy q
  have:∀ u,VR c h [] (.str ds) u→u=.str (zh cs) t→AV.str cs=.str ds:=fun u q=>q.strI fun t e=>congrArg _ (KQ (Value.str.inj e).1).symm
  exact this _ q rfl
 ·refine r.tupI (P:=fun v=>VR c h [] y v→AV.tup xs=y) (fun a vs t r q=>?_) q
  refine yF (P:=fun _ y=>VR c h [] y (.ref a)→AV.tup xs=y) (fun _ j q=>q.intN fun _ e=>Value.noConfusion e) (fun _ _ _ q=>q.strN fun _ e=>Value.noConfusion e) (fun m ys hy _ q=>?_) m y hy q
  cases q with
  | tup t' r' =>
   obtain ⟨o,ho,_,k,hd⟩:=t
   obtain ⟨o',ho',_,k',hd'⟩:=t'
   obtain rfl:o=o':=Option.some.inj (ho.symm.trans ho')
   have e1:vs=_:=congrArg Array.toList (Data.seq.inj (hd.symm.trans hd')).1
   subst e1
   exact congrArg _ (r.uniq _ r' fun x hx v y hy'=>ih x hx m y v (hy y hy'))
inductive QTs (prog:Program) (w:World) (c:Cx) (s:Shared) (d:Nat) (rest:List Value) (b:Option Bool×PUnit) (s':Shared):Prop
 | mk (hb:b.1=none) (hs:s'=s) (left:List AV) (hl:∀ x∈left,∀ (A:Around) E v (Q:Bool→Shared→Prop),VR c s.heap [] x v→Q true s→wpAny (model prog w) A (eqIsQuiet d v) Q E s) (r:VRs c s.heap [] left rest)
theorem zev (n d:Nat) (hnd:n≤d) {A:Around} {E:Value→Shared→Prop} {s:Shared} {x:AV} {v:Value} {Q:Bool→Shared→Prop} (hk:yi n x=true) (r:VR c s.heap [] x v) (h:Q true s) :
  wpAny (model prog w) A (eqIsQuiet d v) Q E s:=by
 suffices z:∀ d (A:Around) E v (Q:Bool→Shared→Prop),n≤d→VR c s.heap [] x v→Q true s→wpAny (model prog w) A (eqIsQuiet d v) Q E s from z d A E v Q hnd r h
 have plain:∀ d {A:Around} {E:Value→Shared→Prop} {v:Value} {Q:Bool→Shared→Prop},carriedByValue v=true→Q true s→wpAny (model prog w) A (eqIsQuiet d v) Q E s:=by
  intro d A E v Q hv h
  rw [eqIsQuiet_byValue d hv]
  exact wpAny_pure h
 refine yF (fun _ i d A E v Q _ r h=>r.intI fun t=>plain d rfl h) (fun _ cs _ d A E v Q _ r h=>r.strI fun t=>plain d rfl h) (fun n xs hx ih d A E v Q hnd r h=>?_) n x hk
 refine r.tupI fun a vs t r=>?_
 obtain ⟨o,ho,hc,m,hd⟩:=t
 have hT:s.TypeIs (.ref a) "tuple":=⟨o,ho,hc⟩
 induction d using Nat.casesOn with
 | zero=>exact absurd hnd (Nat.not_succ_le_zero n)
 | succ d =>
  unfold eqIsQuiet
  refine wpAny_bind (wpAny_specialOf hT F.slot_tuple_eq.lookup ?_)
  show wpAny _ _ (isInstance (.ref a) (.type "tuple") >>= _) _ _ s
  refine wpAny_bind (wpAny_isInstance hT isSubtype_tuple_tuple ?_)
  rw [if_neg (show ¬ (!true)=true from Bool.false_ne_true)]
  refine wpAny_bind (wpAny_seqItems ho hd ?_)
  refine wpAny_bind ?_
  show wpAny _ _ (forIn _ _ _) _ _ s
  rw [Option.getD_some,← Array.forIn_toList]
  refine wpAny_forIn_list _ (fun rest b s'=>QTs prog w c s d rest b s') _ ?_ ?_ _ _ ⟨rfl,rfl,_,fun x hx A E v Q=>ih x hx d A E v Q (Nat.le_of_succ_le_succ hnd),r⟩
  ·intro u rest b s' z
   obtain ⟨hb,rfl,left,hl,hr⟩:=z
   cases hr with
   | cons a r =>
    refine wpAny_bind (hl _ (.head _) _ _ _ _ a ?_)
    rw [if_neg (show ¬ (!true)=true from Bool.false_ne_true)]
    exact wpAny_pure ⟨rfl,rfl,_,fun z hz=>hl z (.tail _ hz),r⟩
  ·intro b s' z
   obtain ⟨r1,r2⟩:=b
   obtain ⟨hb,rfl,_⟩:=z
   cases (hb:r1=none)
   exact wpAny_pure h
noncomputable def tk (prog:Program) (w:World) (c:Cx):HeapKind prog w AV where
 is h k a:=yi 7 k=true∧VR c h [] k (.ref a)
 hash:=KG w
 draws:=Jc
 room A:=A.units + 20 < cLine
 inj:=fun hx hy=>ziK 7 7 hx.1 hy.1 hx.2 hy.2
 keeps:=fun {h h' k a d o es ep} x ho hd hs=>⟨x.1,x.2.mono (zw.of_but ho (.inr fun its n e=>by rw [hd] at e; cases e) fun b x hb e=>(hs.2 b hb).trans e) (Pre.refl _)⟩
 pyHash:=fun hu hk h=>zf8 7 (by lia) hk.1 hk.2 h
 eqBool:=fun {A E s x y a b Q} hu hx hy h=>by
  obtain ⟨as,ra⟩:=hx.2.reads 7 (zR 7 _ hx.1)
  obtain ⟨bs,rb⟩:=hy.2.reads 7 (zR 7 _ hy.1)
  have la:=JS 7 x (zR 7 _ hx.1)
  have lb:=JS 7 y (zR 7 _ hy.1)
  refine SeqAt.eqBoolOverData prog w A E s _ _ _ _ as bs Q ra rb la.1 lb.1 ?_ ?_
  ·have:=Nat.min_le_left (toP x).depth (toP y).depth
   have:=la.2
   lia
  ·rw [VP (zR 7 _ hx.1) (zR 7 _ hy.1),jp]; exact h
 quiet:=fun hk h=>zev 7 8 (by decide) hk.1 hk.2 h
end
end Mine
end
section
namespace Mine
open PySem PySem.W PyProof.Rows PySem.Calls
noncomputable def foot (p:Addr×Option Addr):List Addr:=p.1::p.2.toList
noncomputable def yp (β:Bt):List Addr:=β.flatMap foot
theorem zN {β:Bt} {r:Nat} {p:Addr×Option Addr} (e:β[r]?=some p) {b:Addr} (hb:b∈foot p):b∈yp β :=
 List.mem_flatMap.mpr ⟨p,List.mem_of_getElem? e,hb⟩
theorem K6 (β:Bt) (p:Addr×Option Addr):yp (β++[p])=yp β++foot p:=by simp [yp]
theorem Vs {β:Bt} (nd:(yp β).Nodup) {r q:Nat} {p p':Addr×Option Addr} (e:β[r]?=some p) (e':β[q]?=some p') {b:Addr} (hb:b∈foot p) (hb':b∈foot p'):r=q:=by
 induction β generalizing r q with
 | nil=>simp at e
 | cons x β ih =>
  have nd':(foot x++yp β).Nodup:=by simpa [yp] using nd
  rw [List.nodup_append] at nd'
  induction r using Nat.casesOn with
  | zero =>
   simp only [List.getElem?_cons_zero,Option.some.injEq] at e
   subst e
   induction q using Nat.casesOn with
   | zero=>rfl
   | succ q =>
    simp only [List.getElem?_cons_succ] at e'
    exact absurd rfl (nd'.2.2 b hb b (zN e' hb'))
  | succ r =>
   simp only [List.getElem?_cons_succ] at e
   induction q using Nat.casesOn with
   | zero =>
    simp only [List.getElem?_cons_zero,Option.some.injEq] at e'
    subst e'
    exact absurd rfl (nd'.2.2 b hb' b (zN e hb))
   | succ q =>
    simp only [List.getElem?_cons_succ] at e'
    rw [ih nd'.2.1 e e']
inductive ZS (c:Cx) (h:Heap) (β:Bt) (xs:List AV):Addr×Option Addr→Prop
 | mk {a:Addr} {vs:List Value}:h.PlainList a vs.toArray→VRs c h β xs vs→ZS c h β xs (a,none)
inductive zga (h:Heap) (es:List (AV×AV)):Addr×Option Addr→Prop
 | mk {a:Addr} {n:Nat}:es=[]→h.get? a=some (dictOf [] n)→zga h es (a,none)
inductive Wu (c:Cx) (h:Heap) (β:Bt) {K:Type} (D:Addr→List (K×Value)→Prop) (enc:K→AV) (es:List (AV×AV)):Addr×Option Addr→Prop
 | mk {a:Addr} {kvs:List (K×Value)}:D a kvs→DR c enc h β es kvs→Wu c h β D enc es (a,none)
inductive zd3 (c:Cx) (h:Heap) (β:Bt) (es:List (AV×AV)):Addr×Option Addr→Prop
 | mk {a:Addr} {xs:List (AV×Addr×Value)}:h.DictOfH (tk c.prog c.w c) a xs→DR c (fun x:AV=>x) h β es (xs.map fun x=>(x.1,x.2.2))→zd3 c h β es (a,none)
inductive zbB (c:Cx) (h:Heap) (β:Bt) (k:Nat) (fs:List (Nat×AV)):Addr×Option Addr→Prop
 | mk {a dx:Addr} {n:Nat} {es:List DictEntry}:h.get? a=some (instObj (c.cls k) dx)→h.get? dx=some (dictOf es n)→FR c h β es fs→zbB c h β k fs (a,some dx)
noncomputable def zqf (c:Cx) (h:Heap) (β:Bt) (p:Addr×Option Addr) (es:List (AV×AV)):KK→Prop
 | .int=>Wu c h β (h.DictOf (intKind c.prog c.w)) AV.int es p
 | .str=>Wu c h β (h.DictOf (strKind c.prog c.w)) (fun x:Str=>AV.str x.cps.toList) es p
 | .tup=>zd3 c h β es p
noncomputable def OAt (c:Cx) (h:Heap) (β:Bt) (p:Addr×Option Addr):AO→Prop
 | .list xs=>ZS c h β xs p
 | .dict kd es=>kd.rec (zga h es p) (zqf c h β p es)
 | .inst k fs=>zbB c h β k fs p
theorem Vo {h h':Heap} {a:Addr} {its:Array Value} (k:∀ o,h.get? a=some o→h'.get? a=some o) (x:h.PlainList a its):h'.PlainList a its :=
 by obtain ⟨n,ho⟩:=x; exact ⟨n,k _ ho⟩
section
variable {c:Cx} {h:Heap} {β:Bt} {p:Addr×Option Addr} {P:Addr×Option Addr→Prop}
@[elab_as_elim] theorem OAt.lsI {xs:List AV} (x:OAt c h β p (.list xs)) (k:∀ a vs,h.PlainList a vs.toArray→VRs c h β xs vs→P (a,none)):P p:=ZS.rec (motive:=fun p _=>P p) (fun hl r=>k _ _ hl r) x
@[elab_as_elim] theorem OAt.inI {m:Nat} {fs:List (Nat×AV)} (x:OAt c h β p (.inst m fs)) (k:∀ a dx n es,h.get? a=some (instObj (c.cls m) dx)→h.get? dx=some (dictOf es n)→FR c h β es fs→P (a,some dx)):P p:=zbB.rec (motive:=fun p _=>P p) (fun h1 h2 r=>k _ _ _ _ h1 h2 r) x
@[elab_as_elim] theorem OAt.ndI {es:List (AV×AV)} (x:OAt c h β p (.dict none es)) (k:∀ a n,es=[]→h.get? a=some (dictOf [] n)→P (a,none)):P p:=zga.rec (motive:=fun p _=>P p) (fun h1 h2=>k _ _ h1 h2) x
@[elab_as_elim] theorem OAt.itI {es:List (AV×AV)} (x:OAt c h β p (.dict (some .int) es)) (k:∀ a (kvs:List (Int×Value)),h.DictOf (intKind c.prog c.w) a kvs→DR c AV.int h β es kvs→P (a,none)):P p:=Wu.rec (motive:=fun p _=>P p) (fun h1 h2=>k _ _ h1 h2) x
@[elab_as_elim] theorem OAt.srI {es:List (AV×AV)} (x:OAt c h β p (.dict (some .str) es)) (k:∀ a (kvs:List (Str×Value)),h.DictOf (strKind c.prog c.w) a kvs→DR c (fun x:Str=>AV.str x.cps.toList) h β es kvs→P (a,none)):P p:=Wu.rec (motive:=fun p _=>P p) (fun h1 h2=>k _ _ h1 h2) x
@[elab_as_elim] theorem OAt.tpI {es:List (AV×AV)} (x:OAt c h β p (.dict (some .tup) es)) (k:∀ a (xs:List (AV×Addr×Value)),h.DictOfH (tk c.prog c.w c) a xs→DR c (fun x:AV=>x) h β es (xs.map fun x=>(x.1,x.2.2))→P (a,none)):P p:=zd3.rec (motive:=fun p _=>P p) (fun h1 h2=>k _ _ h1 h2) x
theorem zfP {h':Heap} {K:Type} [DecidableEq K] {knd:KeyKind c.prog c.w K} {a:Addr} {kvs:List (K×Value)} (d:h.DictOf knd a kvs) (k:∀ o,h.get? a=some o→h'.get? a=some o):h'.DictOf knd a kvs:=by
 obtain ⟨o,es',ep,ho,rest⟩:=d; exact ⟨o,es',ep,k _ ho,rest⟩
theorem OAt.mono {h':Heap} {β':Bt} {o:AO} (k:∀ b∈foot p,∀ x,h.get? b=some x→h'.get? b=some x) (t:zw h h') (q:Pre β β') (x:OAt c h β p o):OAt c h' β' p o:=by
 have k1:∀ x,h.get? p.1=some x→h'.get? p.1=some x:=k p.1 (.head _)
 revert k k1
 induction o using AO.casesOn with
 | list xs=>exact x.lsI fun a vs hl r _ k1=>ZS.mk (Vo k1 hl) (r.mono t q)
 | dict kd es =>
  induction kd using Option.casesOn with
  | none=>exact x.ndI fun a n e hn _ k1=>zga.mk e (k1 _ hn)
  | some kd =>
   cases kd with
   | int=>exact x.itI fun a kvs d r _ k1=>Wu.mk (zfP d k1) (r.mono t q)
   | str=>exact x.srI fun a kvs d r _ k1=>Wu.mk (zfP d k1) (r.mono t q)
   | tup=>exact x.tpI fun a kvs d r _ k1=>by obtain ⟨o,es',ep,ho,h1,h2,h3,h4,h5⟩:=d; exact zd3.mk ⟨o,es',ep,k1 _ ho,h1,h2,h3,fun y hy=>⟨(h4 y hy).1,(h4 y hy).2.mono t (Pre.refl _)⟩,h5⟩ (r.mono t q)
 | inst m fs=>exact x.inI fun a dx n es h1 h2 r k k1=>zbB.mk (k1 _ h1) (k _ (.tail _ (.head _)) _ h2) (r.mono t q)
noncomputable def Vv (h:Heap) (b:Addr):Prop:=∃ y,h.get? b=some y∧y.cls≠.type "tuple"∧y.cls≠.type "frame"
theorem Vv.at {b:Addr} {y:Obj} {n:String} (e:h.get? b=some y) (q:y.cls=.type n) (h1:n≠"tuple") (h2:n≠"frame"):Vv h b:=⟨y,e,by rw [q]; exact fun z=>h1 (Value.type.inj z),by rw [q]; exact fun z=>h2 (Value.type.inj z)⟩
theorem zfc {K:Type} [DecidableEq K] {knd:KeyKind c.prog c.w K} {a:Addr} {kvs:List (K×Value)} (d:h.DictOf knd a kvs):∃ o,h.get? a=some o∧o.cls=.type "dict" :=
 d.elim fun o d=>d.elim fun es' d=>d.elim fun ep d=>⟨o,d.1,d.2.1.1⟩
theorem OAt.there {o:AO} (x:OAt c h β p o):∀ b∈foot p,Vv h b:=by
 have one:∀ {a b:Addr},Vv h a→b∈foot (a,none)→Vv h b:=fun s hb=>by cases hb with | head=>exact s | tail _ z=>cases z
 have dc:∀ {a:Addr} {o:Obj} {n:String},h.get? a=some o→o.cls=.type n→(n≠"tuple"∧n≠"frame")→∀ b∈foot (a,none),Vv h b:=fun ho hc q b hb=>one (.at ho hc q.1 q.2) hb
 induction o using AO.casesOn with
 | list xs=>exact x.lsI fun a vs hl _=>hl.elim fun n ho=>dc ho rfl (by decide)
 | dict kd es =>
  induction kd using Option.casesOn with
  | none=>exact x.ndI fun a n _ hn=>dc hn rfl (by decide)
  | some kd =>
   cases kd with
   | int=>exact x.itI fun a kvs d _=>(zfc d).elim fun o d=>dc d.1 d.2 (by decide)
   | str=>exact x.srI fun a kvs d _=>(zfc d).elim fun o d=>dc d.1 d.2 (by decide)
   | tup=>exact x.tpI fun a kvs d _=>d.elim fun o d=>d.elim fun es' d=>d.elim fun ep d=>dc d.1 d.2.1.1 (by decide)
 | inst m fs =>
  exact x.inI fun a dx n es h1 h2 _ b hb=>by
   cases hb with
   | head=>exact ⟨_,h1,nofun,nofun⟩
   | tail _ z =>
    cases z with
    | head=>exact .at h2 rfl (by decide) (by decide)
    | tail _ z=>cases z
end
theorem zW {h:Heap}:h.get? h.objs.size=none:=by
 cases q:h.get? h.objs.size with
 | none=>rfl
 | some o=>exact absurd (Heap.lt_size q) (Nat.lt_irrefl _)
theorem jH {h₀ h:Heap} {L:Addr} (k:∀ b o,h₀.get? b=some o→h.get? b=some o) (e:h.get? L=none):h₀.get? L=none:=by
 cases q:h₀.get? L with
 | none=>rfl
 | some y=>exact nn (e.symm.trans (k L y q))
theorem zjG {a b:Addr} (h:b∈foot (a,none)):b=a:=List.mem_singleton.mp h
theorem zaH (a:Addr):(foot (a,none)).Nodup:=List.nodup_cons.mpr ⟨nofun,List.nodup_nil⟩
theorem WV {α:Type} {l:List α} {i:Nat} {a:α} (e:l[i]?=some a):i < l.length:=(List.getElem?_eq_some_iff.mp e).1
theorem KC {α:Type} (l:List α) (x:α) {n:Nat} (h:l.length=n):(l++[x])[n]?=some x:=h ▸ List.getElem?_concat_length
structure Rel (c:Cx) (β:Bt) (H:AH) (h:Heap):Prop where
 len:β.length=H.length
 at_:∀ (r:Nat) p o,β[r]?=some p→H[r]?=some o→OAt c h β p o
 base:∀ b o,c.h₀.get? b=some o→h.get? b=some o
 off:∀ b∈yp β,c.h₀.get? b=none
 nd:(yp β).Nodup
section
variable {c:Cx} {β:Bt} {H:AH} {h h':Heap}
theorem Rel.get (R:Rel c β H h) {r:Nat} {o:AO} (e:H[r]?=some o):∃ p,β[r]?=some p∧OAt c h β p o:=by
 have hr:r < β.length:=by rw [R.len]; exact (List.getElem?_eq_some_iff.mp e).1
 exact ⟨β[r],List.getElem?_eq_getElem hr,R.at_ r _ _ (List.getElem?_eq_getElem hr) e⟩
theorem Rel.ns (R:Rel c β H h) {a:Addr} {m:Str→Option Value} (x:c.h₀.Ns a m):h.Ns a m :=
 by obtain ⟨o,es,ep,ho,r⟩:=x; exact ⟨o,es,ep,R.base _ _ ho,r⟩
@[elab_as_elim] theorem Rel.obI (R:Rel c β H h) {r:Nat} {u:Value} {o:AO} {P:Value→Prop} (ra:VR c h β (.obj r) u) (hr:H[r]?=some o) (k:∀ p,β[r]?=some p→OAt c h β p o→P (.ref p.1)):P u:=by
 cases ra with | obj e=>exact k _ e (R.at_ r _ _ e hr)
@[elab_as_elim] theorem Rel.lsI (R:Rel c β H h) {r:Nat} {u:Value} {xs:List AV} {P:Value→Prop} (ra:VR c h β (.obj r) u) (hr:H[r]?=some (.list xs)) (k:∀ a vs,β[r]?=some (a,none)→h.PlainList a vs.toArray→VRs c h β xs vs→P (.ref a)):P u :=
 R.obI ra hr fun _ e x=>OAt.lsI (P:=fun p=>β[r]?=some p→P (.ref p.1)) x (fun a vs hl r e=>k a vs e hl r) e
theorem Rel.there (R:Rel c β H h) {b:Addr} (hb:b∈yp β):Vv h b:=by
 obtain ⟨p,hp,hb⟩:=List.mem_flatMap.mp hb
 obtain ⟨r,hr⟩:=List.mem_iff_getElem?.mp hp
 have hl:r < H.length:=by rw [← R.len]; exact (List.getElem?_eq_some_iff.mp hr).1
 exact (R.at_ r p _ hr (List.getElem?_eq_getElem hl)).there b hb
theorem Rel.grow (R:Rel c β H h) (k:∀ b o,h.get? b=some o→h'.get? b=some o):Rel c β H h' :=
 ⟨R.len,fun r p o e e'=>(R.at_ r p o e e').mono (fun b _ x q=>k b x q) (.of_keep k) (.refl _),fun b o e=>k _ _ (R.base b o e),R.off,R.nd⟩
theorem Rel.but (R:Rel c β H h) {L:Addr} {y:Obj} (hL:L∉yp β) (h0:c.h₀.get? L=none) (hy:h.get? L=some y) (hc:∀ its n,y.data≠.seq its n) (k:∀ b o,b≠L→h.get? b=some o→h'.get? b=some o):Rel c β H h' :=
 ⟨R.len,fun r p o e e'=>(R.at_ r p o e e').mono (fun b hb x q=>k b x (fun z=>hL (z ▸ zN e hb)) q) (.of_but hy (.inr hc) fun b x hb q=>k b x hb q) (.refl _),
  fun b o e=>k _ _ (fun z=>by subst z; rw [h0] at e; cases e) (R.base b o e),R.off,R.nd⟩
theorem Rel.add (R:Rel c β H h) {p:Addr×Option Addr} {o:AO} (b0:∀ b∈foot p,c.h₀.get? b=none) (hf:∀ b∈foot p,b∉yp β) (hn:(foot p).Nodup) (t:zw h h') (k:∀ b y,b∉foot p→h.get? b=some y→h'.get? b=some y) (ho:OAt c h' (β++[p]) p o):Rel c (β++[p]) (H++[o]) h':=by
 refine ⟨by rw [List.length_append,List.length_append,R.len]; rfl,fun r q x e e'=>?_,fun b o e=>k _ _ (fun z=>nn ((b0 b z).symm.trans e)) (R.base b o e),fun b hb=>?_,?_⟩
 ·by_cases hr:r < β.length
  ·rw [List.getElem?_append_left hr] at e
   rw [List.getElem?_append_left (by rw [← R.len]; exact hr)] at e'
   exact (R.at_ r q x e e').mono (fun b hb x z=>k b x (fun w=>hf b w (zN e hb)) z) t (Pre.snoc _ _)
  ·have hr':r=β.length:=by
    have:=(List.getElem?_eq_some_iff.mp e).1
    rw [List.length_append] at this
    exact Nat.le_antisymm (Nat.le_of_lt_succ this) (Nat.not_lt.mp hr)
   subst hr'
   rw [KC _ _ rfl] at e
   rw [KC _ _ R.len.symm] at e'
   cases e
   cases e'
   exact ho
 ·rw [K6,List.mem_append] at hb
  exact hb.elim (R.off b) (b0 b)
 ·rw [K6,List.nodup_append]
  exact ⟨R.nd,hn,fun a ha b hb e=>hf b hb (e ▸ ha)⟩
theorem Rel.new (R:Rel c β H h) (k:∀ b o,h.get? b=some o→h'.get? b=some o) {p:Addr×Option Addr} {o:AO} (hf:∀ b∈foot p,h.get? b=none) (hn:(foot p).Nodup) (ho:OAt c h' (β++[p]) p o):Rel c (β++[p]) (H++[o]) h' :=
 R.add (fun b hb=>jH R.base (hf b hb)) (fun b hb z=>(R.there z).elim fun y hy=>nn ((hf b hb).symm.trans hy.1)) hn (.of_keep k) (fun b y _=>k b y) ho
theorem Rel.upd (R:Rel c β H h) {r:Nat} {p:Addr×Option Addr} {a:Addr} {o:AO} (e:β[r]?=some p) (ha:a∈foot p) (k:∀ b x,b≠a→h.get? b=some x→h'.get? b=some x) (ho:OAt c h' β p o):Rel c β (H.set r o) h':=by
 obtain ⟨y,hy,hc,_⟩:=R.there (zN e ha)
 refine ⟨by simp [R.len],fun q p' x e1 e2=>?_,fun b o e1=>k _ _ (fun z=>?_) (R.base b o e1),R.off,R.nd⟩
 ·by_cases hq:q=r
  ·subst hq
   have hl:q < H.length:=by rw [← R.len]; exact (List.getElem?_eq_some_iff.mp e).1
   rw [List.getElem?_set_self hl] at e2
   cases e2
   rw [e] at e1
   cases e1
   exact ho
  ·rw [List.getElem?_set_ne (Ne.symm hq)] at e2
   exact (R.at_ q p' x e1 e2).mono (fun b hb x z=>k b x (fun w=>by subst w; exact hq (Vs R.nd e1 e hb ha)) z) (.of_but hy (.inl hc) k) (.refl _)
 ·subst z
  have:=R.off b (zN e ha)
  rw [e1] at this; cases this
end
structure Ext (c:Cx) (L:Option Addr) (s s':Shared) (β β':Bt) (H':AH):Prop where
 same:∃ h' tk,s'={ s with heap:=h',toks:=tk }
 pre:Pre β β'
 keep:∀ b o,L≠some b→b∉yp β→s.heap.get? b=some o→s'.heap.get? b=some o
 fresh:∀ b,b∈yp β'→b∉yp β→L≠some b∧s.heap.get? b=none
 tup:zw s.heap s'.heap
 rel:Rel c β' H' s'.heap
section
variable {c:Cx} {L:Option Addr} {s s₁ s₂:Shared} {β β₁ β₂:Bt} {H H₁ H₂:AH}
theorem Ext.refl (R:Rel c β H s.heap):Ext c L s s β β H:=⟨⟨s.heap,s.toks,rfl⟩,.refl _,fun _ _ _ _ e=>e,fun _ h h'=>absurd h h',.refl _,R⟩
theorem Ext.trans (x:Ext c L s s₁ β β₁ H₁) (y:Ext c L s₁ s₂ β₁ β₂ H₂):Ext c L s s₂ β β₂ H₂:=by
 obtain ⟨h1,t1,e1⟩:=x.same
 obtain ⟨h2,t2,e2⟩:=y.same
 refine ⟨⟨h2,t2,by rw [e2,e1]⟩,x.pre.trans y.pre,fun b o hL hb e=>?_,fun b hb hn=>?_,x.tup.trans y.tup,y.rel⟩
 ·refine y.keep b o hL (fun hb1=>?_) (x.keep b o hL hb e)
  have:=(x.fresh b hb1 hb).2
  rw [this] at e; cases e
 ·by_cases hb1:b∈yp β₁
  ·exact x.fresh b hb1 hn
  ·obtain ⟨hL,z⟩:=y.fresh b hb hb1
   refine ⟨hL,?_⟩
   cases q:s.heap.get? b with
   | none=>rfl
   | some o=>rw [x.keep b o hL hn q] at z; cases z
theorem Ext.toL (x:Ext c none s s₁ β β₁ H₁) {a:Addr} {o:Obj} (ha:s.heap.get? a=some o):Ext c (some a) s s₁ β β₁ H₁:=by
 refine ⟨x.same,x.pre,fun b o _ hb e=>x.keep b o (by simp) hb e,fun b hb hn=>⟨fun e=>?_,(x.fresh b hb hn).2⟩,x.tup,x.rel⟩
 cases e
 have:=(x.fresh _ hb hn).2
 rw [ha] at this; cases this
theorem Ext.tok {t:Nat} (R:Rel c β H s.heap):Ext c L s { s with toks:=t } β β H:=⟨⟨s.heap,t,rfl⟩,.refl _,fun _ _ _ _ e=>e,fun _ h h'=>absurd h h',.refl _,R⟩
theorem Ext.grow {h':Heap} {t:Nat} (R:Rel c β H s.heap) (k:∀ b o,s.heap.get? b=some o→h'.get? b=some o):Ext c L s { s with heap:=h',toks:=t } β β H :=
 ⟨⟨h',t,rfl⟩,.refl _,fun b o _ _ e=>k b o e,fun _ h h'=>absurd h h',.of_keep k,R.grow k⟩
theorem Ext.upd {h':Heap} {t:Nat} (R:Rel c β H s.heap) {r:Nat} {p:Addr×Option Addr} {a:Addr} {o:AO} (e:β[r]?=some p) (ha:a∈foot p) (k:∀ b x,b≠a→s.heap.get? b=some x→h'.get? b=some x)
  (ho:OAt c h' β p o):Ext c L s { s with heap:=h',toks:=t } β β (H.set r o):=by
 obtain ⟨y,hy,hc,_⟩:=R.there (zN e ha)
 exact ⟨⟨h',t,rfl⟩,.refl _,fun b o _ hb e'=>k b o (fun z=>hb (z ▸ zN e ha)) e',fun _ h h'=>absurd h h',.of_but hy (.inl hc) k,R.upd e ha k ho⟩
theorem Ext.new {h':Heap} {t:Nat} (R:Rel c β H s.heap) (k:∀ b o,s.heap.get? b=some o→h'.get? b=some o) {p:Addr×Option Addr} {o:AO} (hf:∀ b∈foot p,s.heap.get? b=none) (hn:(foot p).Nodup) (ho:OAt c h' (β++[p]) p o) :
  Ext c none s { s with heap:=h',toks:=t } β (β++[p]) (H++[o]) :=
 ⟨⟨h',t,rfl⟩,.snoc _ _,fun b o _ _ e=>k b o e,fun b hb hn=>⟨by simp,by
  rw [K6,List.mem_append] at hb
  rcases hb with hb | hb
  ·exact absurd hb hn
  ·exact hf b hb⟩,.of_keep k,R.new k hf hn ho⟩
theorem Ext.add (x:Ext c none s s₁ β β₁ H₁) {h':Heap} {t:Nat} {p:Addr×Option Addr} {o:AO} (b0:∀ b o,c.h₀.get? b=some o→s.heap.get? b=some o) (hf:∀ b∈foot p,b∉yp β₁∧s.heap.get? b=none) (hn:(foot p).Nodup)
  (tk:zw s₁.heap h') (k:∀ b y,b∉foot p→s₁.heap.get? b=some y→h'.get? b=some y) (ho:OAt c h' (β₁++[p]) p o):Ext c none s { s₁ with heap:=h',toks:=t } β (β₁++[p]) (H₁++[o]):=by
 refine ⟨?_,x.pre.trans (.snoc _ _),fun b o hL hb e=>k b o (fun z=>nn ((hf b z).2.symm.trans e)) (x.keep b o hL hb e),fun b hb hn=>?_,x.tup.trans tk,x.rel.add (fun b hb=>jH b0 (hf b hb).2) (fun b hb=>(hf b hb).1) hn tk k ho⟩
 ·obtain ⟨a,b,e⟩:=x.same
  exact ⟨h',t,by rw [e]⟩
 ·rw [K6,List.mem_append] at hb
  exact ⟨nofun,hb.elim (fun hb=>(x.fresh b hb hn).2) fun hb=>(hf b hb).2⟩
theorem Ext.vr (x:Ext c L s s₁ β β₁ H₁) {v:AV} {u:Value} (r:VR c s.heap β v u):VR c s₁.heap β₁ v u:=r.mono x.tup x.pre
theorem Ext.vrs (x:Ext c L s s₁ β β₁ H₁) {v:List AV} {u:List Value} (r:VRs c s.heap β v u):VRs c s₁.heap β₁ v u:=r.mono x.tup x.pre
theorem Ext.base (x:Ext c L s s₁ β β₁ H₁):∀ b o,c.h₀.get? b=some o→s₁.heap.get? b=some o:=x.rel.base
end
structure LR (c:Cx) (lv:List Str) (L:Addr) (h:Heap) (β:Bt) (ρ:Loc):Prop where
 ns:∃ m,h.Ns L m∧∀ i v,zc i ρ=some v→∃ x u,lv[i]?=some x∧m x=some u∧VR c h β v u
 off:L∉yp β
 old:c.h₀.get? L=none
section
variable {c:Cx} {lv:List Str} {L:Addr} {s s₁:Shared} {β β₁:Bt} {H₁:AH} {ρ:Loc}
theorem LR.ext (R:LR c lv L s.heap β ρ) (x:Ext c none s s₁ β β₁ H₁):LR c lv L s₁.heap β₁ ρ:=by
 obtain ⟨m,⟨o,es,ep,ho,r⟩,hm⟩:=R.ns
 refine ⟨⟨m,⟨o,es,ep,x.keep L o (by simp) R.off ho,r⟩,fun i v e=>?_⟩,fun hb=>?_,R.old⟩
 ·obtain ⟨y,u,h1,h2,h3⟩:=hm i v e
  exact ⟨y,u,h1,h2,x.vr h3⟩
 ·have:=(x.fresh L hb R.off).2
  rw [ho] at this; cases this
theorem LR.there (R:LR c lv L s.heap β ρ):∃ o,s.heap.get? L=some o:=by
 obtain ⟨m,⟨o,es,ep,ho,r⟩,hm⟩:=R.ns
 exact ⟨o,ho⟩
end
end Mine
end
section
namespace Mine
open PySem PySem.W PyProof.Rows PySem.Calls
open Sem (wp)
inductive Res (c:Cx) (s:Shared) (β:Bt) (H':AH) (v:AV) (u:Value) (s':Shared):Prop
 | mk (β':Bt) (x:Ext c none s s' β β' H') (r:VR c s'.heap β' v u)
noncomputable abbrev No:Value→Shared→Prop:=fun _ _=>False
section
variable {c:Cx} {A:Around} {s s₁:Shared} {β β₁:Bt} {H H₁ H':AH}
theorem Res.after {v:AV} {u:Value} {s':Shared} (x:Ext c none s s₁ β β₁ H₁) (r:Res c s₁ β₁ H' v u s'):Res c s β H' v u s':=by
 obtain ⟨β',y,q⟩:=r; exact ⟨β',x.trans y,q⟩
theorem yK {t:Sem Value} {M:Model} {v:AV} (x:Ext c none s s₁ β β₁ H₁) (h:wpAny M A t (Res c s₁ β₁ H' v) No s₁):wpAny M A t (Res c s β H' v) No s₁ :=
 wpAny_mono h (fun _ _ r=>r.after x) fun _ _ e=>e
theorem zly {x y:Int} (h:x.natAbs < 2 ^ 64∨y.natAbs < 2 ^ 64):IntMulOk x y:=by
 rcases h with h | h
 ·exact .of_left (PyProof.Rows.intBits_le h)
 ·exact .of_right (PyProof.Rows.intBits_le h)
theorem qL (x y:List Nat):zh x++zh y=zh (x++y):=by
 show (⟨x.toArray++y.toArray⟩:Str)=⟨(x++y).toArray⟩
 congr 1
 simp
theorem W9 (x:List Nat):(zh x).length=x.length:=by
 show x.toArray.size=x.length
 simp
theorem VU {xs:List AV} {vs:List Value} (R:Rel c β H s.heap) (r:VRs c s.heap β xs vs) {t:Nat} :
  Res c s β (H++[.list xs]) (.obj H.length) (.ref s.heap.objs.size) { s with heap:=s.heap.push { cls:=.type "list",data:=.seq vs.toArray },toks:=t }:=by
 have k:∀ b o,s.heap.get? b=some o→(s.heap.push { cls:=.type "list",data:=.seq vs.toArray }).get? b=some o:=fun b o e=>Heap.get?_push_of_some _ e
 have no:s.heap.get? s.heap.objs.size=none:=by
  cases q:s.heap.get? s.heap.objs.size with
  | none=>rfl
  | some o=>exact absurd (Heap.lt_size q) (Nat.lt_irrefl _)
 refine ⟨β++[(s.heap.objs.size,none)],.new R k (by simpa [foot] using no) (by simp [foot]) (ZS.mk ⟨0,Heap.get?_push_size _ rfl⟩ (r.mono (.of_keep k) (.snoc _ _))),?_⟩
 have:(β++[(s.heap.objs.size,(none:Option Addr))])[H.length]?=some (s.heap.objs.size,none):=by
  rw [← R.len]; simp
 exact .obj this
theorem jE {l b:Addr} {vs ws:List Value} {Q:Value→Shared→Prop} (hl:s.heap.IsList l vs.toArray) (hb:s.heap.IsList b ws.toArray) (hsz:vs.length + ws.length≤sizeLine)
  (h:Q (.ref s.heap.objs.size) { s with heap:=s.heap.push { cls:=.type "list",data:=.seq (vs++ws).toArray } }):wpAny (model c.prog c.w) A (binaryOp .Add (.ref l) (.ref b)) Q No s:=by
 obtain ⟨⟨c1,d1,dt1,s1⟩,e1,f1,n1,g1⟩:=hl
 obtain ⟨⟨c2,d2,dt2,s2⟩,e2,f2,n2,g2⟩:=hb
 dsimp only at f1 g1 f2 g2
 subst f1 g1 f2 g2
 have q:vs.toArray++ws.toArray=(vs++ws).toArray:=by simp
 exact concat_meets ⟨_,e1,rfl⟩ ⟨_,e2,rfl⟩ noFill_list_add seq_list_add PySem.F.slot_list_add PySem.F.entry_list_add (PySem.F.args_list_add_2 _ _)
  (list_addW l b vs.toArray ws.toArray n1 n2 d1 d2 s1 s2 (by simpa using hsz)) ⟨e1,e2,by rw [q]; exact h⟩
theorem zaF {l:Addr} {vs:List Value} {x:Int} {u:Tok} {Q:Value→Shared→Prop} (hl:s.heap.IsList l vs.toArray) (h0:0≤x) (h1:x≤100) (h2:vs.length≤2)
  (h:Q (.ref s.heap.objs.size) { s with heap:=s.heap.push { cls:=.type "list",data:=.seq (List.replicate x.toNat vs).flatten.toArray } }):wpAny (model c.prog c.w) A (binaryOp .Mult (.ref l) (.int x u)) Q No s:=by
 obtain ⟨⟨c1,d1,dt1,s1⟩,e1,f1,n1,g1⟩:=hl
 dsimp only at f1 g1
 subst f1 g1
 have hs:vs.toArray.size=vs.length:=by simp
 have hz:vs.toArray.size * x.toNat≤200:=by
  rw [hs]
  exact Nat.le_trans (Nat.mul_le_mul h2 (show x.toNat≤100 by lia)) (by decide)
 have hz':vs.length * x.toNat≤200:=hs ▸ hz
 have hT:s.TypeIs (.ref l) "list":=⟨_,e1,rfl⟩
 refine wpAny_binaryOp_repeat_ref (T:="list") (U:="int") (by decide) hT (fun s'=>typeIs_int s' x u) noFill_list_mul F.fills_int_mul F.slot_int_rmul repeat_list F.slot_int_index.lookup ?_
 refine call_meets F.slot_int_rmul (typeIs_int s x u) F.entry_int_rmul (F.args_int_rmul_2 _ _) (lm_int_rmul_list_any x u l vs.toArray n1 d1 s1) ⟨e1,rfl,hT,?_⟩
 refine call_meets F.slot_list_mul hT F.entry_list_mul (F.args_list_mul_2 _ _) (lm_list_mul_any l vs.toArray n1 d1 s1 x u ?_ ?_ ?_) ⟨e1,?_⟩
 ·simp [Builtin.List.listFitsIndex]; lia
 ·lia
 ·simp [Builtin.List.listTooLong,sizeLine]; lia
 ·rw [listMul_foldl_if]; exact h
theorem ziF (R:Rel c β H s.heap) {a b:AV} {p:AV×AH} {u w:Value} (ra:VR c s.heap β a u) (rb:VR c s.heap β b w) (e:zoo a b H=some p):wpAny (model c.prog c.w) A (binaryOp .Add u w) (Res c s β p.2 p.1) No s:=by
 induction a using AV.casesOn with
 | int x =>
  refine zY e fun y e2 e0=>?_
  subst e2
  exact ra.intI fun t=>rb.intI fun t'=>oe (P:=fun p=>wpAny (model c.prog c.w) A (binaryOp .Add (.int x t) (.int y t')) (Res c s β p.2 p.1) No s) e0 (PyProof.Rows.add_int ⟨β,.tok R,.int _ _⟩)
 | str x =>
  refine xf e fun y e2 e=>og e fun h e0=>?_
  subst e2
  refine ra.strI fun t=>rb.strI fun t'=>oe (P:=fun p=>wpAny (model c.prog c.w) A (binaryOp .Add (.str (zh x) t) (.str (zh y) t')) (Res c s β p.2 p.1) No s) e0 (PyProof.Rows.add_str (fun t' tk=>⟨β,.tok R,?_⟩) (hsz:=?_))
  ·rw [qL]; exact .str _ _
  ·rw [W9,W9]
   exact Nat.le_trans h (by decide)
 | obj r =>
  refine VV e fun xs h1 e=>zhE e fun q ys e2 h2 e=>og e fun hz e0=>?_
  subst e2
  refine R.lsI ra h1 fun l vs _ hl r1=>R.lsI rb h2 fun m ws _ hm r2=>oe (P:=fun p=>wpAny (model c.prog c.w) A (binaryOp .Add (.ref l) (.ref m)) (Res c s β p.2 p.1) No s) e0 (jE hl.isList hm.isList ?_ (VU R (r1.append r2)))
  rw [r1.length,r2.length]
  exact Nat.le_trans hz (by decide)
 | _=>exact nn e
theorem zik (R:Rel c β H s.heap) {a b:AV} {p:AV×AH} {u w:Value} (ra:VR c s.heap β a u) (rb:VR c s.heap β b w) (e:znz a b H=some p):wpAny (model c.prog c.w) A (binaryOp .Mult u w) (Res c s β p.2 p.1) No s:=by
 induction a using AV.casesOn with
 | int x =>
  refine zY e fun y e2 e=>og e fun h e0=>?_
  subst e2
  exact ra.intI fun t=>rb.intI fun t'=>oe (P:=fun p=>wpAny (model c.prog c.w) A (binaryOp .Mult (.int x t) (.int y t')) (Res c s β p.2 p.1) No s) e0 (PyProof.Rows.mul_int ⟨β,.tok R,.int _ _⟩ (zly h))
 | obj r =>
  refine VV e fun xs h1 e=>zY e fun n e2 e=>og e fun hz e0=>?_
  subst e2
  refine R.lsI ra h1 fun l vs _ hl r1=>rb.intI fun t=>oe (P:=fun p=>wpAny (model c.prog c.w) A (binaryOp .Mult (.ref l) (.int n t)) (Res c s β p.2 p.1) No s) e0 (zaF hl.isList hz.1 hz.2.1 (by rw [r1.length]; exact hz.2.2) (VU R (r1.rep _)))
 | _=>exact nn e
theorem Vq (R:Rel c β H s.heap) {op:Operator} {a b:AV} {p:AV×AH} {u w:Value} {f:Int→Int→Option (AV×AH)} (ra:VR c s.heap β a u) (rb:VR c s.heap β b w) (e:iiA a b f=some p)
  (go:∀ x y t t',f x y=some p→(∀ {i:Int} {t:Tok} {n:Nat},some (AV.int i,H)=some p→Res c s β p.2 p.1 (.int i t) { s with toks:=n })→wpAny (model c.prog c.w) A (binaryOp op (.int x t) (.int y t')) (Res c s β p.2 p.1) No s) :
  wpAny (model c.prog c.w) A (binaryOp op u w) (Res c s β p.2 p.1) No s :=
 zhS e fun x y e1 e2 e=>by
  subst e1 e2
  exact ra.intI fun t=>rb.intI fun t'=>go x y _ _ e fun q=>oe (P:=fun p=>Res c s β p.2 p.1 _ _) q ⟨β,.tok R,.int _ _⟩
theorem zdU (R:Rel c β H s.heap) {op:Operator} {a b:AV} {p:AV×AH} {u w:Value} (ra:VR c s.heap β a u) (rb:VR c s.heap β b w) (e:qd op a b H=some p) :
  wpAny (model c.prog c.w) A (binaryOp op u w) (Res c s β p.2 p.1) No s:=by
 cases op with
 | Add=>exact ziF R ra rb e
 | Sub=>exact Vq R ra rb e fun _ _ _ _ e i=>PyProof.Rows.sub_int' (i e)
 | Mult=>exact zik R ra rb e
 | FloorDiv =>
  refine Vq R ra rb e fun x y _ _ e i=>ong e fun h e=>?_
  rw [not_or] at h
  refine floordiv_int h.1 (i e) (.inl (PyProof.noPylong_of_log2 ?_))
  have h2:=Nat.lt_of_not_le h.2
  by_cases h0:y.natAbs=0
  ·rw [h0]; decide +kernel
  ·exact Nat.lt_of_lt_of_le ((Nat.log2_lt h0).mpr h2) (by decide)
 | Mod=>exact Vq R ra rb e fun _ _ _ _ e i=>ong e fun h e=>mod_int' (not_or.mp h).1 (i e)
 | Pow =>
  refine Vq R ra rb e fun x y _ _ e i=>og e fun h e=>pow_int h.2.1 ?_ (i e)
  have hb:(Builtin.Int.intBits x:Int)≤64:=by exact_mod_cast PyProof.Rows.intBits_le h.1
  have hb0:(0:Int)≤(Builtin.Int.intBits x:Int):=Int.natCast_nonneg _
  exact Int.le_trans (Int.mul_le_mul hb h.2.2 h.2.1 (by decide)) (by decide)
 | LShift=>exact Vq R ra rb e fun _ _ _ _ e i=>og e fun h e=>lshift_int_small h.2.1 (by lia) h.1 (i e)
 | RShift=>exact Vq R ra rb e fun _ _ _ _ e i=>og e fun h e=>rshift_int h (i e)
 | BitAnd=>exact Vq R ra rb e fun _ _ _ _ e i=>and_int (i e)
 | _=>exact nn e
end
end Mine
end
section
namespace Mine
open PySem PySem.W PyProof.Rows PySem.Calls
open Sem (wp)
noncomputable def YD (K:Frag) (C:Addr) (name:Str):Bool :=
 findIn K (.ref C) "__getattribute__" == some (some (.builtin "object.__getattribute__"))&&findIn K (.ref C) "__setattr__" == some (some (.builtin "object.__setattr__")) &&
 hasDictIn K C&&plainOver K C&&findIn K (.ref C) name == some none
structure Bs (c:Cx):Prop where
 kin:c.K.In c.h₀
 finj:∀ i j,c.fld i=c.fld j→i=j
 fld:∀ k n,JA k n=true→YD c.K (c.cls k) (c.fld n)=true
 sys:∃ o,c.h₀.get? sysModules=some o
 cd:∀ k t,Yi k=some t→(c.cst k == sysModules)=false∧∃ kvs:List (Int×Value),c.h₀.DictOf (intKind c.prog c.w) (c.cst k) kvs∧DR c AV.int c.h₀ [] (t.map fun p=>(AV.int p.1,AV.int p.2)) kvs
inductive DV (c:Cx) (h:Heap) (β:Bt) (d:Addr) (k:AV) (r:Option AV):Prop
 | flat {K:Type} (i:DecidableEq K) (knd:KeyKind c.prog c.w K) (x:K) (kvs:List (K×Value)):(∀ h β key,VR c h β k key→knd.is x key=true)→h.DictOf knd d kvs→Hit c h β r (valueAt kvs x)→DV c h β d k r
 | deep (xs:List (AV×Addr×Value)):(∀ h β key,VR c h β k key→∃ a,key=.ref a∧(tk c.prog c.w c).is h k a)→h.DictOfH (tk c.prog c.w c) d xs→Hit c h β r ((atKey xs k).map (·.2))→DV c h β d k r
section
variable {c:Cx} {h:Heap} {β:Bt}
theorem qG {i:Int} {key:Value} (r:VR c h β (.int i) key):(intKind c.prog c.w).is i key=true:=r.intI fun _=>decide_eq_true rfl
theorem zbj {x:List Nat} {key:Value} (r:VR c h β (.str x) key):(strKind c.prog c.w).is (zh x) key=true:=r.strI fun t=>strKind_is _ _ _ t
theorem Zh:∀ a b:Str,AV.str a.cps.toList=AV.str b.cps.toList→a=b:=fun a b e=>by
 injection e with e
 obtain ⟨⟨a⟩⟩:=a
 obtain ⟨⟨b⟩⟩:=b
 dsimp only at e
 rw [e]
theorem ZO (xs:List (AV×Addr×Value)) (k:AV):valueAt (xs.map fun x=>(x.1,x.2.2)) k=(atKey xs k).map (·.2):=by
 unfold valueAt atKey
 induction xs with
 | nil=>rfl
 | cons x xs ih =>
  rw [List.map_cons,List.find?_cons,List.find?_cons]
  by_cases e:x.1=k
  ·simp [e]
  ·simp only [e,decide_false]; exact ih
theorem J6 {p:Addr} {n:Nat} {K:Type} [DecidableEq K] {knd:KeyKind c.prog c.w K} (hd:h.get? p=some (dictOf [] n)):h.DictOf knd p [] :=
 ⟨_,#[],n,hd,⟨rfl,rfl,rfl⟩,rfl,fun _ he=>by simp at he,.nil,List.nodup_nil⟩
theorem qu {p:Addr} {n:Nat} {K:Type} [DecidableEq K] {knd:HeapKind c.prog c.w K} (hd:h.get? p=some (dictOf [] n)):h.DictOfH knd p [] :=
 ⟨_,#[],n,hd,⟨rfl,rfl,rfl⟩,rfl,rfl,fun _ hx=>by simp at hx,List.nodup_nil⟩
theorem VRs.bare {xs:List AV} {vs:List Value} (r:VRs c h β xs vs):(∀ x∈xs,∀ v,VR c h β x v→VR c h [] x v)→VRs c h [] xs vs :=
 r.ind (fun _=>.nil) fun a _ ih q=>.cons (q _ (.head _) _ a) (ih fun x m=>q x (.tail _ m))
theorem xG (n:Nat) {x:AV} {v:Value} (hk:yi n x=true) (r:VR c h β x v):VR c h [] x v:=by
 suffices z:∀ v,VR c h β x v→VR c h [] x v from z v r
 exact yF (fun _ _ v r=>r.intI fun _=>.int _ _) (fun _ _ _ v r=>r.strI fun _=>.str _ _) (fun _ _ _ ih v r=>r.tupI fun _ _ t r=>.tup t (r.bare ih)) n x hk
theorem zch {ys:List AV} (hy:yi 7 (.tup ys)=true) (h:Heap) (β:Bt) (key:Value) (r:VR c h β (.tup ys) key):∃ a,key=.ref a∧(tk c.prog c.w c).is h (.tup ys) a :=
 (xG 7 hy r).tupI (P:=fun key=>VR c h [] (.tup ys) key→∃ a,key=.ref a∧(tk c.prog c.w c).is h (.tup ys) a) (fun a _ _ _ b=>⟨a,rfl,hy,b⟩) (xG 7 hy r)
theorem kkI {k:AV} {d:KK} {P:AV→KK→Prop} (e:kk k=some d) (i:∀ i,P (.int i) .int) (s:∀ x,P (.str x) .str) (t:∀ ys,yi 7 (.tup ys)=true→P (.tup ys) .tup):P k d:=by
 induction k using AV.casesOn with
 | int j=>exact oe (P:=P (.int j)) e (i j)
 | str x=>exact ot e fun _ e=>oe (P:=P (.str x)) e (s x)
 | tup ys=>exact ot e fun h e=>oe (P:=P (.tup ys)) e (t ys h)
 | _=>exact nn e
theorem zjY {p:Addr×Option Addr} {kd:Option KK} {es:List (AV×AV)} {k:AV} {r:Option AV} (o:OAt c h β p (.dict kd es)) (e:Wh kd es k=some r):DV c h β p.1 k r:=by
 refine ob e fun d hk e=>?_
 induction kd using Option.casesOn with
 | none =>
  refine oe (P:=fun r=>DV c h β p.1 k r) e ?_
  refine o.ndI fun a n _ hn=>?_
  exact kkI (P:=fun k _=>DV c h β a k none) hk (fun i=>.flat inferInstance (intKind c.prog c.w) i [] (fun _ _ _=>qG) (J6 hn) .miss) (fun x=>.flat inferInstance (strKind c.prog c.w) (zh x) [] (fun _ _ _=>zbj) (J6 hn) .miss)
   fun ys hy=>.deep [] (zch hy) (qu hn) .miss
 | some kd =>
  refine og e fun q e=>oe (P:=fun r=>DV c h β p.1 k r) e ?_
  subst q
  revert o
  exact kkI (P:=fun k d=>OAt c h β p (.dict (some d) es)→DV c h β p.1 k (ze k es)) hk (fun i o=>o.itI fun a kvs hd hr=>.flat inferInstance (intKind c.prog c.w) i kvs (fun _ _ _=>qG) hd (hr.look (fun _ _=>AV.int.inj) i))
   (fun x o=>o.srI fun a kvs hd hr=>.flat inferInstance (strKind c.prog c.w) (zh x) kvs (fun _ _ _=>zbj) hd (hr.look Zh (zh x)))
   fun ys hy o=>o.tpI fun a xs hd hr=>.deep xs (zch hy) hd (ZO xs _ ▸ hr.look (fun _ _ e=>e) (AV.tup ys))
theorem zaU (k:Int) (t:List (Int×Int)):ze (.int k) (t.map fun p=>(AV.int p.1,AV.int p.2))=(Ku k t).map .int:=by
 induction t with
 | nil=>rfl
 | cons p r ih =>
  rw [List.map_cons,VH,ziz]
  by_cases e:p.1=k
  ·rw [if_pos e,show AV.eqb (.int p.1) (.int k)=true from decide_eq_true e]; rfl
  ·rw [if_neg e,show AV.eqb (.int p.1) (.int k)=false from decide_eq_false e]; exact ih
theorem Ju (B:Bs c) {H:AH} (R:Rel c β H h) {r:Nat} {p:Addr×Option Addr} (e:β[r]?=some p):(p.1 == sysModules)=false :=
 beq_eq_false_iff_ne.mpr fun z=>B.sys.elim fun y hy=>absurd ((z ▸ R.off _ (zN e (.head _)):c.h₀.get? sysModules=none).symm.trans hy) nofun
theorem K8 (B:Bs c) {H:AH} (R:Rel c β H h) {o k:AV} {r:Option AV} {u:Value} (e:lookIn H o k=some r) (ho:VR c h β o u):∃ d,u=.ref d∧(d == sysModules)=false∧DV c h β d k r:=by
 induction o using AV.casesOn with
 | obj q=>exact ZF e fun kd es hq e=>R.obI ho hq fun p hp hat=>⟨_,rfl,Ju B R hp,zjY hat e⟩
 | cst q =>
  refine ob e fun t ht e=>zY e fun i e' e=>oe (P:=fun r=>∃ d,u=.ref d∧(d == sysModules)=false∧DV c h β d k r) e ?_
  subst e'
  obtain ⟨hs,kvs,hd,hr⟩:=B.cd _ _ ht
  cases ho
  exact ⟨_,rfl,hs,.flat inferInstance (intKind c.prog c.w) i kvs (fun _ _ _=>qG) (zfP hd fun o=>R.base _ o) (zaU i t ▸ (hr.mono (c:=c) (h':=h) (β':=β) (.of_keep R.base) (.nil _)).look (fun _ _=>AV.int.inj) i)⟩
 | _=>exact nn e
end
section
variable {c:Cx} {A:Around} {s:Shared} {β:Bt} {H:AH} {d:Addr} {k:AV} {r:Option AV} {key:Value}
noncomputable def yh (A:Around):Prop:=A.units + 100 < cLine
theorem qx (hu:yh A):(tk c.prog c.w c).room A.in1:=by
 show A.units + 1 + 20 < cLine
 have:A.units + 100 < cLine:=hu
 lia
theorem Hit.some {h:Heap} {x:AV} {o:Option Value} {P:Prop} (y:Hit c h β (some x) o) (k:∀ v,o=some v→VR c h β x v→P):P:=by cases y with | hit q=>exact k _ rfl q
theorem zbO (R:Rel c β H s.heap) (hu:yh A) {x:AV} (D:DV c s.heap β d k (some x)) (hk:VR c s.heap β k key) :
  wpAny (model c.prog c.w) A (getItem (.ref d) key) (Res c s β H x) No s:=by
 cases D with
 | flat i knd y kvs hy hd hh=>exact hh.some fun v h2 h3=>wpAny_getItem_of (hy _ _ _ hk) hd.mapOf h2 ⟨β,.tok R,h3⟩
 | deep xs hi hd hh =>
  refine hh.some fun v h2 h3=>?_
  obtain ⟨q,hq,rfl⟩:=Option.map_eq_some_iff.mp h2
  obtain ⟨a,rfl,hi⟩:=hi _ _ _ hk
  exact wpAny_getItem_heap (knd:=tk c.prog c.w c) (k:=k) (xs:=xs) (qx hu) hi hd hq ⟨β,.tok R,h3⟩
theorem Hit.getD {h:Heap} {o:Option Value} {x:AV} {u:Value} (y:Hit c h β r o) (z:VR c h β x u):VR c h β (r.getD x) (o.getD u):=by
 cases y with
 | miss=>exact z
 | hit q=>exact q
theorem Hit.isSome {h:Heap} {o:Option Value} (y:Hit c h β r o):o.isSome=r.isSome:=by cases y <;> rfl
inductive Lk (c:Cx) (d:Addr) (Q:Value→Shared→Prop) (key w:Value) (s:Shared):Prop
 | mk {β:Bt} {k z:AV} {r:Option AV}:DV c s.heap β d k r→VR c s.heap β k key→VR c s.heap β z w→(∀ u t,VR c s.heap β (r.getD z) u→Q u { s with toks:=t })→Lk c d Q key w s
theorem zhx {s:Shared} {pos:Pos} {x:Sem Value} {Q:Value→Shared→Prop} (hu:yh A) (hs:(d == sysModules)=false)
  (h:wpAny (model c.prog c.w) A x (fun key s₁=>Lk c d Q key .none s₁) No s) :
  wpAny (model c.prog c.w) A (callWith pos (.builtin "dict.get") [.ref d] [(false,x)] []) Q No s :=
 method1_meetsIn F.slot_dict_get F.entry_dict_get (wpAny_mono h (fun key s₁ h₁=>by
  obtain ⟨D,hk,hz,hq⟩:=h₁
  cases D with
  | flat i knd y kvs hy hd hh=>exact ⟨hd.typeIs,F.args_dict_get_2 _ _,_,meets_dict_get knd d (hy _ _ _ hk) hs,valueAt kvs,hd.mapOf,hq _ _ (hh.getD hz)⟩
  | deep xs hi hd hh =>
   obtain ⟨a,rfl,hi⟩:=hi _ _ _ hk
   exact ⟨hd.typeIs,F.args_dict_get_2 _ _,_,meetsH_dict_get (tk c.prog c.w c) d _ hs,qx hu,_,xs,hi,hd,hq _ _ (hh.getD hz)⟩) fun _ _ e=>e)
theorem ziO {s:Shared} {pos:Pos} {x y:Sem Value} {Q:Value→Shared→Prop} (hu:yh A) (hs:(d == sysModules)=false)
  (h:wpAny (model c.prog c.w) A x (fun key s₁=>wpAny (model c.prog c.w) A y (fun w s₂=>Lk c d Q key w s₂) No s₁) No s) :
  wpAny (model c.prog c.w) A (callWith pos (.builtin "dict.get") [.ref d] [(false,x),(false,y)] []) Q No s :=
 method2_meetsIn F.slot_dict_get F.entry_dict_get (wpAny_mono h (fun key s₁ h₁=>wpAny_mono h₁ (fun w s₂ h₂=>by
  obtain ⟨D,hk,hz,hq⟩:=h₂
  cases D with
  | flat i knd y kvs hy hd hh=>exact ⟨hd.typeIs,F.args_dict_get_3 _ _ _,_,meets_dict_get_default knd d (hy _ _ _ hk) hs w,valueAt kvs,hd.mapOf,hq _ _ (hh.getD hz)⟩
  | deep xs hi hd hh =>
   obtain ⟨a,rfl,hi⟩:=hi _ _ _ hk
   exact ⟨hd.typeIs,F.args_dict_get_3 _ _ _,_,meetsH_dict_get_default (tk c.prog c.w c) d _ hs w,qx hu,_,xs,hi,hd,hq _ _ (hh.getD hz)⟩) fun _ _ e=>e) fun _ _ e=>e)
theorem zpy {Q:Value→Shared→Prop} (hu:yh A) (hs:(d == sysModules)=false) (D:DV c s.heap β d k r) (hk:VR c s.heap β k key) (hq:∀ t,Q (.bool r.isSome) { s with toks:=t }) :
  wpAny (model c.prog c.w) A (compareOp .In key (.ref d)) Q No s:=by
 cases D with
 | flat i knd y kvs hy hd hh=>exact wpAny_in_of (hy _ _ _ hk) hs hd.mapOf (hh.isSome ▸ hq _)
 | deep xs hi hd hh =>
  obtain ⟨a,rfl,hi⟩:=hi _ _ _ hk
  exact wpAny_in_heap (knd:=tk c.prog c.w c) (qx hu) hi hs hd ((Option.isSome_map.symm.trans hh.isSome) ▸ hq _)
theorem zfg {Q:Value→Shared→Prop} (hu:yh A) (hs:(d == sysModules)=false) (D:DV c s.heap β d k r) (hk:VR c s.heap β k key) (hq:∀ t,Q (.bool (!r.isSome)) { s with toks:=t }) :
  wpAny (model c.prog c.w) A (compareOp .NotIn key (.ref d)) Q No s:=by
 cases D with
 | flat i knd y kvs hy hd hh=>exact wpAny_notIn_of (hy _ _ _ hk) hs hd.mapOf (hh.isSome ▸ hq _)
 | deep xs hi hd hh =>
  obtain ⟨a,rfl,hi⟩:=hi _ _ _ hk
  exact wpAny_notIn_heap (knd:=tk c.prog c.w c) (qx hu) hi hs hd ((Option.isSome_map.symm.trans hh.isSome) ▸ hq _)
end
end Mine
end
section
namespace Mine
open PySem PySem.W PyProof.Rows PySem.Calls
open Sem (wp)
section
variable {c:Cx} {A:Around} {s:Shared} {β:Bt} {H:AH}
noncomputable abbrev Vf (c:Cx) (s:Shared) (β:Bt) (H':AH) (b:Bool):Value→Shared→Prop:=Res c s β H' (.bool b)
theorem VQ (R:Rel c β H s.heap) (b:Bool) (t:Nat):Vf c s β H b (.bool b) { s with toks:=t }:=⟨β,.tok R,.bool _⟩
theorem zcr {h:Heap} {p:Addr×Option Addr} {kd:Option KK} {es:List (AV×AV)} (h1:kd≠some .str) (h2:kd≠some .tup) (o:OAt c h β p (.dict kd es)) :
  ∃ kvs:List (Int×Value),h.DictOf (intKind c.prog c.w) p.1 kvs∧DR c AV.int h β es kvs:=by
 induction kd using Option.casesOn with
 | none=>exact o.ndI fun a n e hn=>⟨[],J6 hn,e ▸ .nil⟩
 | some k =>
  cases k with
  | int=>exact o.itI fun a kvs d r=>⟨kvs,d,r⟩
  | str=>exact absurd rfl h1
  | tup=>exact absurd rfl h2
theorem zhk {es:List (AV×AV)} {k x:AV} (ha:(es.all fun e=>zg 0 e.2)=true) (e:ze k es=some x):zg 0 x=true:=by
 induction es with
 | nil=>exact nn e
 | cons y es ih =>
  have ha:=tt (List.all_cons.symm.trans ha)
  rw [yJ] at e
  cases q:AV.eqb y.1 k with
  | true=>rw [q] at e; exact Option.some.inj e ▸ ha.1
  | false=>rw [q] at e; exact ih ha.2 e
theorem zhP {s:Shared} {x y:AV} {u v:Value} (hu:A.units + 70 < cLine) (hx:zg 0 x=true) (hy:zg 0 y=true) (r:VR c s.heap β x u) (q:VR c s.heap β y v):SeqAt.EqAt A s u v (PyData.eqv (toP x) (toP y)) :=
 (r.reads 0 hx).elim fun as ra=>(q.reads 0 hy).elim fun bs rb=>SeqAt.eqAt_reads _ _ A s _ _ as bs ra rb (JS 0 x hx).1 (JS 0 y hy).1 (by
  have:=Nat.min_le_left (toP x).depth (toP y).depth
  have:=(JS 0 x hx).2
  lia)
theorem zgS {x y:AV}:decide (some y=some x)=AV.eqb x y:=by
 rw [jp]; exact decide_eq_decide.mpr ⟨fun e=>(Option.some.inj e).symm,fun e=>congrArg some e.symm⟩
theorem zfv {es':List (AV×AV)} {kb:List (Int×Value)} (hu:A.units + 70 < cLine) (hb:DR c AV.int s.heap β es' kb) (db:(es'.all fun e=>zg 0 e.2)=true)
  {es:List (AV×AV)} {ka:List (Int×Value)} (r:DR c AV.int s.heap β es ka):(es.all fun e=>zg 0 e.2)=true→KeqHits A s kb ka (es.all fun e=>decide (ze e.1 es'=some e.2)):=by
 induction r with
 | nil=>intro _; exact .nil
 | @cons k x v es kvs hv r ih =>
  intro ha
  have ha:=tt (List.all_cons.symm.trans ha)
  rw [List.all_cons]
  have l:=hb.look (fun _ _=>AV.int.inj) k
  revert l
  cases e:ze (AV.int k) es' with
  | none =>
   intro l
   generalize ev:valueAt kb k=ov at l
   cases l
   exact .miss ev
  | some y =>
   intro l
   have hy:=zhk db e
   rw [zgS,← VP ha.1 hy]
   exact l.some fun u hu' n3=>.hit hu' (zhP hu ha.1 hy hv n3) (ih ha.2)
noncomputable def ZB (c:Cx) (A:Around) (s:Shared) (β:Bt) (H:AH) (r:Bool) (u w:Value):Prop :=
 wpAny (model c.prog c.w) A (compareOp .Eq u w) (Vf c s β H r) No s∧wpAny (model c.prog c.w) A (compareOp .NotEq u w) (Vf c s β H (!r)) No s
theorem zmj (R:Rel c β H s.heap) (x y:Int) (t t':Tok):ZB c A s β H (decide (x=y)) (.int x t) (.int y t'):=⟨PyProof.Rows.eq_int (VQ R _ s.toks),PyProof.Rows.ne_int (VQ R _ s.toks)⟩
theorem zdX (x y:List Nat):(zh x == zh y)=decide (x=y):=by
 cases h:zh x == zh y with
 | true=>exact (decide_eq_true (KQ (eq_of_beq h))).symm
 | false=>exact (decide_eq_false fun e=>Bool.false_ne_true (h.symm.trans (by rw [e]; exact beq_self_eq_true _))).symm
theorem zlE (R:Rel c β H s.heap) (x y:List Nat) (t t':Tok):ZB c A s β H (decide (x=y)) (.str (zh x) t) (.str (zh y) t') :=
 zdX x y ▸ ⟨PyProof.Rows.eq_str (VQ R _ s.toks),PyProof.Rows.ne_str (VQ R _ s.toks)⟩
theorem zdf (R:Rel c β H s.heap) (hu:yh A) {a b:Value} {x y:PyData} {as bs:List Addr} (r1:Reads s.heap a x as) (r2:Reads s.heap b y bs) (s1:SeqAt.shaped x=true) (s2:SeqAt.shaped y=true):ZB c A s β H (PyData.eqv x y) a b :=
 have hu':A.units + 64 < cLine:=Nat.lt_trans (Nat.add_lt_add_left (by decide) _) hu
 ⟨PyProof.Rows.eq_dataH r1 r2 s1 s2 hu' (VQ R _ s.toks),PyProof.Rows.ne_dataH r1 r2 s1 s2 hu' (VQ R _ s.toks)⟩
theorem Yk {xs:List AV} (h:xs.all (zg 6)=true):SeqAt.shaped (.list (Vk xs))=true :=
 have l:=zap h
 (Bool.and_eq_true _ _).mpr ⟨l.1,decide_eq_true (Nat.le_trans (Nat.succ_le_succ l.2) (by decide))⟩
theorem ziN (R:Rel c β H s.heap) (hu:yh A) {xs ys:List AV} {vs ws:List Value} {l m:Addr} (g1:s.heap.PlainList l vs.toArray) (g2:s.heap.PlainList m ws.toArray) (q1:VRs c s.heap β xs vs) (q2:VRs c s.heap β ys ws)
  (d1:xs.all (zg 6)=true) (d2:ys.all (zg 6)=true):ZB c A s β H (AV.eqbs xs ys) (.ref l) (.ref m):=by
 obtain ⟨n1,g1⟩:=g1
 obtain ⟨n2,g2⟩:=g2
 obtain ⟨as,t1⟩:=q1.readsAll fun x m v r=>r.reads 6 (List.all_eq_true.mp d1 x m)
 obtain ⟨bs,t2⟩:=q2.readsAll fun x m v r=>r.reads 6 (List.all_eq_true.mp d2 x m)
 exact zeU d1 d2 ▸ zdf R hu (reads_list_at g1 rfl rfl t1) (reads_list_at g2 rfl rfl t2) (Yk d1) (Yk d2)
theorem ziv (B:Bs c) (R:Rel c β H s.heap) (hu:yh A) {es es':List (AV×AV)} {ka kb:List (Int×Value)} {r q:Nat} {p p':Addr×Option Addr} (e1:β[r]?=some p) (e2:β[q]?=some p') (da:s.heap.DictOf (intKind c.prog c.w) p.1 ka)
  (db:s.heap.DictOf (intKind c.prog c.w) p'.1 kb) (ta:DR c AV.int s.heap β es ka) (tb:DR c AV.int s.heap β es' kb) (d1:(es.all fun e=>zg 0 e.2)=true) (d2:(es'.all fun e=>zg 0 e.2)=true) :
  ZB c A s β H (decide (es.length=es'.length)&&es.all fun e=>decide (ze e.1 es'=some e.2)) (.ref p.1) (.ref p'.1):=by
 have hits:KeqHits A.in1 s kb ka (es.all fun e=>decide (ze e.1 es'=some e.2)):=zfv (A:=A.in1) (Nat.lt_of_le_of_lt (Nat.add_le_add_left (by decide:1 + 70≤100) A.units) hu) tb d2 ta d1
 have hc:A.units < cLine:=Nat.lt_of_le_of_lt (Nat.le_add_right _ _) hu
 rw [← ta.length,← tb.length,show decide (ka.length=kb.length)=(ka.length == kb.length) from rfl]
 exact ⟨keq_eq (Ju B R e1) (Ju B R e2) da db hc (fun _=>hits) (VQ R _ s.toks),keq_ne (Ju B R e1) (Ju B R e2) da db hc (fun _=>hits) (VQ R _ s.toks)⟩
theorem zfR (B:Bs c) (hu:yh A) (R:Rel c β H s.heap) {a b:AV} {u w:Value} {r:Bool} (ra:VR c s.heap β a u) (rb:VR c s.heap β b w) (e:eqA a b H=some r):ZB c A s β H r u w:=by
 induction a using AV.casesOn with
 | int x =>
  refine zY e fun y e2 e0=>?_
  subst e2
  exact ra.intI fun t=>rb.intI fun t'=>oe (P:=fun r=>ZB c A s β H r (.int x t) (.int y t')) e0 (zmj R ..)
 | str x =>
  refine xf e fun y e2 e0=>?_
  subst e2
  exact ra.strI fun t=>rb.strI fun t'=>oe (P:=fun r=>ZB c A s β H r (.str (zh x) t) (.str (zh y) t')) e0 (zlE R ..)
 | tup xs =>
  refine zgv e fun ys e2 e=>og e fun hd e0=>?_
  subst e2
  have d1:zg 6 (.tup xs)=true:=(tt hd).1
  have d2:zg 6 (.tup ys)=true:=(tt hd).2
  have q:PyData.eqv (toP (.tup xs)) (toP (.tup ys))=AV.eqbs xs ys:=VP d1 d2
  exact (ra.reads 6 d1).elim fun as r1=>(rb.reads 6 d2).elim fun bs r2=>oe (P:=fun r=>ZB c A s β H r u w) e0 (q ▸ zdf R hu r1 r2 (Zz (by decide) d1) (Zz (by decide) d2))
 | obj r1 =>
  refine KH e fun r2 e2 e=>ob e fun o h1 e0=>?_
  subst e2
  induction o using AO.casesOn with
  | list xs=>exact VV e0 fun ys h2 e=>og e fun hd e=>R.lsI ra h1 fun l vs _ g1 q1=>R.lsI rb h2 fun m ws _ g2 q2=>oe (P:=fun r=>ZB c A s β H r (.ref l) (.ref m)) e (ziN R hu g1 g2 q1 q2 (tt hd).1 (tt hd).2)
  | dict kd es =>
   exact ZF e0 fun kd' es' h2 e=>og e fun hd e=>R.obI ra h1 fun p e1 o1=>R.obI rb h2 fun p' e2 o2=>(zcr hd.1 hd.2.1 o1).elim fun ka da=>(zcr hd.2.2.1 hd.2.2.2.1 o2).elim fun kb db =>
    oe (P:=fun r=>ZB c A s β H r (.ref p.1) (.ref p'.1)) e (ziv B R hu e1 e2 da.1 db.1 da.2 db.2 hd.2.2.2.2.1 hd.2.2.2.2.2)
  | inst=>exact nn e0
 | _=>exact nn e
noncomputable def zcL (c:Cx) (A:Around) (s:Shared) (β:Bt) (H:AH) (r:Bool) (u w:Value):Prop :=
 wpAny (model c.prog c.w) A (compareOp .In u w) (Vf c s β H r) No s∧wpAny (model c.prog c.w) A (compareOp .NotIn u w) (Vf c s β H (!r)) No s
theorem zc5 {a:AV} (ha:zg 5 a=true):∀ {ys:List AV},(∀ y∈ys,zg 5 y=true)→((Vk ys).any fun y=>PyData.eqv y (toP a))=ys.any fun y=>AV.eqb y a
 | [],_=>rfl
 | y::ys,h=>by rw [Vk,List.any_cons,List.any_cons,VP (h y (.head _)) ha,zc5 ha fun z hz=>h z (.tail _ hz)]
theorem zc1 (B:Bs c) (hu:yh A) (R:Rel c β H s.heap) {a b:AV} {u w:Value} {r:Bool} (ra:VR c s.heap β a u) (rb:VR c s.heap β b w) (e:zlG a b H=some r):zcL c A s β H r u w:=by
 have look:(lookIn H b a).map (·.isSome)=some r→zcL c A s β H r u w:=fun e=>om (P:=fun r=>zcL c A s β H r u w) e fun q hq=>by
  obtain ⟨d,rfl,hs,D⟩:=K8 B R hq rb
  exact ⟨zpy hu hs D ra fun t=>VQ R _ t,zfg hu hs D ra fun t=>VQ R _ t⟩
 induction b using AV.casesOn with
 | tup ys =>
  refine og e fun hd e=>oe (P:=fun r=>zcL c A s β H r u w) e ?_
  have hd:=tt hd
  have d2:zg 6 (.tup ys)=true:=hd.2
  obtain ⟨as,r1⟩:=ra.reads 5 hd.1
  obtain ⟨bs,r2⟩:=rb.reads 6 d2
  have l1:=JS 5 a hd.1
  have l2:=zap hd.2
  have room:A.units + (min (PyData.depthAll (Vk ys)) (toP a).depth) + 50 < cLine:=Nat.lt_of_le_of_lt (Nat.add_assoc .. ▸ Nat.add_le_add_left (Nat.le_trans (Nat.add_le_add_right (Nat.le_trans (Nat.min_le_right ..) l1.2) 50) (by decide:5 + 50≤100)) A.units) hu
  rw [← zc5 hd.1 (List.all_eq_true.mp hd.2)]
  exact ⟨SeqAt.in_tuple_reads r2 r1 l2.1 l1.1 (by lia) (VQ R _ s.toks),SeqAt.notIn_tuple_reads r2 r1 l2.1 l1.1 (by lia) (VQ R _ s.toks)⟩
 | _=>exact look e
theorem YF (R:Rel c β H s.heap) {op:CmpOp} {a b:AV} {u w:Value} {r:Bool} {f:Int→Int→Bool} (ra:VR c s.heap β a u) (rb:VR c s.heap β b w) (e:(JJ a fun x=>JJ b fun y=>some (f x y))=some r)
  (go:∀ {x y:Int} {t t':Tok},Vf c s β H (f x y) (.bool (f x y)) s→wpAny (model c.prog c.w) A (compareOp op (.int x t) (.int y t')) (Vf c s β H (f x y)) No s):wpAny (model c.prog c.w) A (compareOp op u w) (Vf c s β H r) No s:=by
 refine zY e fun x e1 e=>zY e fun y e2 e0=>?_
 subst e1 e2
 exact ra.intI fun t=>rb.intI fun t'=>oe (P:=fun r=>wpAny (model c.prog c.w) A (compareOp op (.int x t) (.int y t')) (Vf c s β H r) No s) e0 (go (VQ R _ s.toks))
theorem zcv (R:Rel c β H s.heap) {a b:AV} {u w:Value} {r:Bool} (f:Bool→Bool) {op:CmpOp} (ra:VR c s.heap β a u) (rb:VR c s.heap β b w) (e:zcn b (some (f (isN a)))=some r)
  (go:∀ u,Vf c s β H r (.bool (f (u == .none))) s→wpAny (model c.prog c.w) A (compareOp op u .none) (Vf c s β H r) No s):wpAny (model c.prog c.w) A (compareOp op u w) (Vf c s β H r) No s:=by
 refine zeh e fun e1 e0=>?_
 subst e1
 refine rb.noneI (go u ?_)
 have:(u == .none)=isN a:=by cases ra <;> rfl
 rw [this]
 exact oe (P:=fun r=>Vf c s β H r (.bool (f (isN a))) s) e0 (VQ R _ s.toks)
theorem zja (B:Bs c) (hu:yh A) (R:Rel c β H s.heap) {op:CmpOp} {a b:AV} {u w:Value} {r:Bool} (ra:VR c s.heap β a u) (rb:VR c s.heap β b w) (e:qr op a b H=some r) :
  wpAny (model c.prog c.w) A (compareOp op u w) (Vf c s β H r) No s:=by
 cases op with
 | Eq=>exact (zfR B hu R ra rb e).1
 | NotEq=>exact om (P:=fun r=>wpAny (model c.prog c.w) A (compareOp .NotEq u w) (Vf c s β H r) No s) e fun q hq=>(zfR B hu R ra rb hq).2
 | Lt=>exact YF R ra rb e PyProof.Rows.lt_int
 | LtE=>exact YF R ra rb e PyProof.Rows.le_int
 | Gt=>exact YF R ra rb e PyProof.Rows.gt_int
 | GtE=>exact YF R ra rb e PyProof.Rows.ge_int
 | Is=>exact zcv R (fun b=>b) ra rb e fun u h=>is_none_gen h
 | IsNot=>exact zcv R (fun b=>!b) ra rb e fun u h=>isnot_none_gen h
 | In=>exact (zc1 B hu R ra rb e).1
 | NotIn=>exact om (P:=fun r=>wpAny (model c.prog c.w) A (compareOp .NotIn u w) (Vf c s β H r) No s) e fun q hq=>(zc1 B hu R ra rb hq).2
end
end Mine
end
section
namespace Mine
open PySem PySem.W PyProof.Rows PySem.Calls
open Sem (wp)
noncomputable def J5 (e:Expr):Bool:=!Nat.beq e.ctorIdx 26
theorem WU {slice:Expr} (h:J5 slice=true) (o i:Value):subscripted slice false o i=operate [o,i] (getItem o i):=by
 cases slice <;> first | rfl | cases h
section
variable {c:Cx} {A:Around} {s:Shared} {β:Bt} {H:AH}
theorem DV.typeIs {d:Addr} {k:AV} {r:Option AV} (D:DV c s.heap β d k r):s.TypeIs (.ref d) "dict":=by
 cases D with
 | flat i knd y kvs hy hd hh=>exact hd.typeIs
 | deep xs hi hd hh=>exact hd.typeIs
theorem zcz {n:Nat} (h:n≤big):(n:Int) < 2 ^ 63:=Int.lt_of_le_of_lt (Int.ofNat_le.mpr h) (by decide)
theorem J9 {n:Nat} (h:n≤big):n≤sizeLine:=Nat.le_trans h (by decide)
noncomputable def zeJ (c:Cx) (scr:List Int):Prop:=∃ us:List Value,c.h₀.PlainList (c.cst 3) us.toArray∧VRs c c.h₀ [] (scr.map .int) us
theorem k63 {k:Int} (h:k < 1000000):k < 2 ^ 63:=Int.lt_trans h (by decide)
theorem zaj (R:Rel c β H s.heap) {value slice:Expr} (hsl:J5 slice=true) {a:Addr} {xs:List AV} {vs:List Value} {k:Int} {t:Tok} {v:AV} (hl:s.heap.PlainList a vs.toArray) (rr:VRs c s.heap β xs vs) (hk:0≤k∧k < 1000000) (e:xs[k.toNat]?=some v) :
  wpAny (model c.prog c.w) A (subscriptTail value slice (.ref a) (.int k t)) (Res c s β H v) No s :=
 (rr.get e).elim fun x hx=>tail_any hl.isList.typeIs slot_list_getitem.lookup (wpAny_getItem_list hl.isList hk.1 (k63 hk.2) (List.getElem?_toArray.trans hx.1) ⟨β,.refl R,hx.2⟩) (WU hsl _ _)
theorem xn (R:Rel c β H s.heap) (hu:yh A) {value slice:Expr} (hsl:J5 slice=true) {d:Addr} {i v:AV} {w:Value} (D:DV c s.heap β d i (some v)) (ri:VR c s.heap β i w):wpAny (model c.prog c.w) A (subscriptTail value slice (.ref d) w) (Res c s β H v) No s :=
 tail_any D.typeIs slot_dict_getitem.lookup (zbO R hu D ri) (WU hsl _ _)
theorem zdp {scr:List Int} (S:zeJ c scr) (B:Bs c) (hu:yh A) (R:Rel c β H s.heap) {value slice:Expr} (hsl:J5 slice=true) {o i v:AV} {u w:Value} (ro:VR c s.heap β o u) (ri:VR c s.heap β i w) (e:index scr H o i=some v) :
  wpAny (model c.prog c.w) A (subscriptTail value slice u w) (Res c s β H v) No s:=by
 induction o using AV.casesOn with
 | cst q =>
  refine obB e (fun hq e=>zY e fun k ek e=>og e fun hk e=>om (P:=fun v=>wpAny (model c.prog c.w) A (subscriptTail value slice u w) (Res c s β H v) No s) e fun j hj=>?_) fun _ e=>oj e fun e=>?_
  ·have hq:=Nat.eq_of_beq_eq_true hq
   subst hq ek
   obtain ⟨us,hl,r⟩:=S
   cases ro
   exact ri.intI fun t=>zaj R hsl (Vo (fun o e=>R.base _ o e) hl) (r.mono (.of_keep R.base) (.nil _)) hk (List.getElem?_map.trans (congrArg (Option.map _) hj))
  ·obtain ⟨d,rfl,hs,D⟩:=K8 B R e ro
   exact xn R hu hsl D ri
 | tup xs =>
  refine zY e fun k ek e=>og e fun hk e0=>?_
  subst ek
  refine ro.tupI fun a vs t r=>ri.intI fun t'=>?_
  obtain ⟨x,hx,rx⟩:=r.get e0
  exact item_tupleT t (Int.le_trans (by decide) hk.1) (k63 hk.2) (seqIndex_of hk.1 ((Int.toNat_lt hk.1).mp (r.length.symm ▸ (List.getElem?_eq_some_iff.mp e0).1))) hx ⟨β,.refl R,rx⟩ (WU hsl _ _)
 | obj q =>
  refine ob e fun o hq e=>?_
  induction o using AO.casesOn with
  | list xs =>
   refine zY e fun k ek e=>og e fun hk e0=>?_
   subst ek
   exact R.lsI ro hq fun a vs _ hl r=>ri.intI fun t=>zaj R hsl hl r hk e0
  | dict kd es=>exact oj e fun e=>R.obI ro hq fun p _ hat=>xn R hu hsl (zjY hat e) ri
  | inst=>exact nn e
 | _=>exact nn e
noncomputable def xQ (c:Cx) (L:Option Addr) (s:Shared) (β:Bt) (H':AH):Unit→Shared→Prop:=fun _ s'=>Ext c L s s' β β H'
theorem zmF (xs:List (AV×Addr×Value)) (k:AV):((xs.map fun x=>(x.1,x.2.2)).any fun kv=>decide (kv.1=k))=(atKey xs k).isSome:=by
 unfold atKey
 induction xs with
 | nil=>rfl
 | cons x xs ih =>
  rw [List.map_cons,List.any_cons,List.find?_cons]
  cases decide (x.1=k) with
  | true=>rfl
  | false=>exact ih
theorem ZG (xs:List (AV×Addr×Value)) (k:AV) (a:Addr) (v:Value):(storedH xs k a v).map (fun x=>(x.1,x.2.2))=stored (xs.map fun x=>(x.1,x.2.2)) k v:=by
 unfold stored storedH
 rw [zmF]
 cases (atKey xs k).isSome with
 | true =>
  rw [if_pos rfl,if_pos rfl,List.map_map,List.map_map]
  refine List.map_congr_left fun x _=>?_
  show _=if x.1=k then (x.1,v) else (x.1,x.2.2)
  by_cases e:x.1=k
  ·rw [if_pos e]; show ((putAt k v x).1,(putAt k v x).2.2)=_; rw [putAt,if_pos e]
  ·rw [if_neg e]; show ((putAt k v x).1,(putAt k v x).2.2)=_; rw [putAt,if_neg e]
 | false=>rw [if_neg Bool.false_ne_true,if_neg Bool.false_ne_true,List.map_append]; rfl
theorem zd0 (xs:List (AV×Addr×Value)) (h:(xs.map (·.1)).Nodup):((xs.map fun x=>(x.1,x.2.2)).map (·.1)).Nodup:=by
 rw [List.map_map]; exact h
theorem OAt.asI {h:Heap} {p:Addr×Option Addr} {kd:Option KK} {es:List (AV×AV)} {P:Addr×Option Addr→Prop} (o:OAt c h β p (.dict kd es)) (q:kd=none∨kd=some .int) (k:∀ a (kvs:List (Int×Value)),h.DictOf (intKind c.prog c.w) a kvs→DR c AV.int h β es kvs→P (a,none)):P p:=by
 rcases q with rfl | rfl
 ·exact o.ndI fun a n e hn=>k a [] (J6 hn) (e ▸ .nil)
 ·exact o.itI k
theorem OAt.asS {h:Heap} {p:Addr×Option Addr} {kd:Option KK} {es:List (AV×AV)} {P:Addr×Option Addr→Prop} (o:OAt c h β p (.dict kd es)) (q:kd=none∨kd=some .str) (k:∀ a (kvs:List (Str×Value)),h.DictOf (strKind c.prog c.w) a kvs→DR c (fun x:Str=>AV.str x.cps.toList) h β es kvs→P (a,none)):P p:=by
 rcases q with rfl | rfl
 ·exact o.ndI fun a n e hn=>k a [] (J6 hn) (e ▸ .nil)
 ·exact o.srI k
theorem OAt.asT {h:Heap} {p:Addr×Option Addr} {kd:Option KK} {es:List (AV×AV)} {P:Addr×Option Addr→Prop} (o:OAt c h β p (.dict kd es)) (q:kd=none∨kd=some .tup) (k:∀ a (xs:List (AV×Addr×Value)),h.DictOfH (tk c.prog c.w c) a xs→DR c (fun x:AV=>x) h β es (xs.map fun x=>(x.1,x.2.2))→P (a,none)):P p:=by
 rcases q with rfl | rfl
 ·exact o.ndI fun a n e hn=>k a [] (qu hn) (e ▸ .nil)
 ·exact o.tpI k
theorem Jd {h h':Heap} {a:Addr} (hs:Heap.SameBut a h h'):∀ b x,b≠a→h.get? b=some x→h'.get? b=some x:=fun b _ hb e=>(hs.2 b hb).trans e
theorem YG {h h':Heap} {a:Addr} {o:Obj} (e:h.get? a=some o) (hc:o.cls=.type "dict") (hs:Heap.SameBut a h h'):zw h h':=.of_but e (.inl (by rw [hc]; exact fun z=>absurd (Value.type.inj z) (by decide))) (Jd hs)
theorem zaA {K:Type} [DecidableEq K] {knd:KeyKind c.prog c.w K} {enc:K→AV} (inj:∀ a b,enc a=enc b→a=b) (R:Rel c β H s.heap) {r:Nat} {a:Addr} {es:List (AV×AV)} {kvs:List (K×Value)} {k:K} {v:AV} {w x:Value} {o':AO} (hp:β[r]?=some (a,none))
  (ri:knd.is k w=true) (hd:s.heap.DictOf knd a kvs) (hr:DR c enc s.heap β es kvs) (rv:VR c s.heap β v x) (hz:es.length < big) (fin:∀ h' kvs',h'.DictOf knd a kvs'→DR c enc h' β (zB (enc k) v es) kvs'→OAt c h' β (a,none) o') :
  wpAny (model c.prog c.w) A (setItem (.ref a) w x) (xQ c none s β (H.set r o')) No s :=
 wpAny_setItem_pairs ri hd (fun h' hd' hs=>(zfc hd).elim fun o ho=>.upd R hp (.head _) (Jd hs) (fin h' _ hd' ((hr.put inj rv hd.choose_spec.choose_spec.choose_spec.2.2.2.2.2).mono (YG ho.1 ho.2 hs) (.refl _)))) (hsz:=hr.length.symm ▸ J9 (Nat.le_of_lt hz))
theorem xC (hu:yh A) (R:Rel c β H s.heap) {r:Nat} {p:Addr×Option Addr} {kd:Option KK} {es:List (AV×AV)} {i v:AV} {o':AO} {w x:Value} (hp:β[r]?=some p) (hq:OAt c s.heap β p (.dict kd es))
  (ri:VR c s.heap β i w) (rv:VR c s.heap β v x) (e:Yq kd es i v=some o'):wpAny (model c.prog c.w) A (setItem (.ref p.1) w x) (xQ c none s β (H.set r o')) No s:=by
 refine ob e fun d hk e=>og e fun hh e=>oe (P:=fun o'=>wpAny (model c.prog c.w) A (setItem (.ref p.1) w x) (xQ c none s β (H.set r o')) No s) e ?_
 obtain ⟨hh,hz⟩:=hh
 clear e
 revert hp ri hh
 refine kkI (P:=fun i d=>β[r]?=some p→VR c s.heap β i w→(kd=none∨kd=some d)→wpAny (model c.prog c.w) A (setItem (.ref p.1) w x) (xQ c none s β (H.set r (.dict (some d) (zB i v es)))) No s) hk (fun j hp ri hh=>?_) (fun j hp ri hh=>?_) fun ys hy hp ri hh=>?_
 ·exact OAt.asI (P:=fun p=>β[r]?=some p→wpAny (model c.prog c.w) A (setItem (.ref p.1) w x) _ No s) hq hh (fun a kvs hd hr hp=>zaA (fun _ _=>AV.int.inj) R hp (qG ri) hd hr rv hz fun _ _ d r=>Wu.mk d r) hp
 ·exact OAt.asS (P:=fun p=>β[r]?=some p→wpAny (model c.prog c.w) A (setItem (.ref p.1) w x) _ No s) hq hh (fun a kvs hd hr hp=>zaA Zh R hp (zbj ri) hd hr rv hz fun _ _ d r=>Wu.mk d r) hp
 ·refine OAt.asT (P:=fun p=>β[r]?=some p→wpAny (model c.prog c.w) A (setItem (.ref p.1) w x) _ No s) hq hh (fun a xs hd hr hp=>?_) hp
  obtain ⟨a',rfl,hi⟩:=zch hy _ _ _ ri
  refine wpAny_setItem_heap (knd:=tk c.prog c.w c) (k:=.tup ys) (qx hu) hi hd (fun h' hd' hs=>?_) (hsz:=(List.length_map _).symm.trans hr.length ▸ J9 (Nat.le_of_lt hz))
  obtain ⟨o,_,_,ho,hx,_,_,_,nd⟩:=hd
  exact .upd R hp (.head _) (Jd hs) (zd3.mk hd' (ZG .. ▸ (hr.put (fun _ _ e=>e) (k:=AV.tup ys) rv (zd0 _ nd)).mono (YG ho hx.1 hs) (.refl _)))
theorem xp {h:Heap} {a:Addr} {its:Array Value} {n:Nat} (x:PySem.IsL h a its n):h.PlainList a its:=⟨n,x⟩
theorem YK {h h':Heap} {a:Addr} {its:Array Value} {n:Nat} (hl:PySem.IsL h a its n) (k:∀ b x,b≠a→h.get? b=some x→h'.get? b=some x):zw h h':=.of_but hl (.inl fun z=>absurd (Value.type.inj z) (by decide)) k
theorem YM {h:Heap} {a:Addr} {f:Obj→Obj}:∀ b x,b≠a→h.get? b=some x→(h.update a f).get? b=some x:=fun _ _ hb e=>(Heap.get?_update_other h _ (Ne.symm hb)).trans e
theorem zgJ (R:Rel c β H s.heap) {q:Nat} {a:Addr} {xs:List AV} {vs:List Value} {k:Int} {v:AV} {x:Value} {t:Tok} (g:β[q]?=some (a,none)) (hl:s.heap.PlainList a vs.toArray) (rr:VRs c s.heap β xs vs) (rv:VR c s.heap β v x) (hk:0≤k∧k < xs.length∧k < 1000000) :
  wpAny (model c.prog c.w) A (setItem (.ref a) (.int k t) x) (xQ c none s β (H.set q (.list (xs.set k.toNat v)))) No s:=by
 obtain ⟨n,hl⟩:=hl
 refine ki_setAt hl hk.1 (k63 hk.2.2) (by rw [List.size_toArray,rr.length]; exact hk.2.1) ?_
 refine .upd R g (.head _) YM (ZS.mk (vs:=vs.set k.toNat x) ?_ ((rr.set rv k.toNat).mono (YK hl YM) (.refl _)))
 have q:=PySem.IsL.update (n:=n) hl (·.setIfInBounds k.toNat x)
 rw [show vs.toArray.setIfInBounds k.toNat x=(vs.set k.toNat x).toArray from List.setIfInBounds_toArray ..] at q
 exact xp q
theorem jS (hu:yh A) (R:Rel c β H s.heap) {o i v:AV} {H':AH} {u w x:Value} (ro:VR c s.heap β o u) (ri:VR c s.heap β i w) (rv:VR c s.heap β v x) (e:yT H o i v=some H') :
  wpAny (model c.prog c.w) A (setItem u w x) (xQ c none s β H') No s:=by
 refine KH e fun r er e=>ob e fun o hq e=>?_
 subst er
 induction o using AO.casesOn with
 | list xs =>
  refine zY e fun k ek e=>og e fun hk e=>oe (P:=fun H'=>wpAny (model c.prog c.w) A (setItem u w x) (xQ c none s β H') No s) e ?_
  subst ek
  exact R.lsI ro hq fun a vs g hl rr=>ri.intI fun t=>zgJ R g hl rr rv hk
 | dict kd es=>exact om (P:=fun H'=>wpAny (model c.prog c.w) A (setItem u w x) (xQ c none s β H') No s) e fun o' ho'=>R.obI ro hq fun p g hat=>xC hu R g hat ri rv ho'
 | inst=>exact nn e
theorem zb5 (R:Rel c β H s.heap) {r:Nat} {p:Addr×Option Addr} {xs:List AV} {v:AV} {x:Value} (hp:β[r]?=some p) (hq:H[r]?=some (.list xs)) (hz:xs.length < big) (rv:VR c s.heap β v x) :
  wpAny (model c.prog c.w) A (call (.builtin "list.append") [.ref p.1,x]) (Res c s β (H.set r (.list (xs++[v]))) .none) No s:=by
 refine OAt.lsI (P:=fun p=>β[r]?=some p→wpAny (model c.prog c.w) A (call (.builtin "list.append") [.ref p.1,x]) (Res c s β (H.set r (.list (xs++[v]))) .none) No s) (R.at_ r p _ hp hq) (fun a vs hl rr hp=>?_) hp
 refine wpAny_list_append_plain hl (fun h' hl' hs'=>⟨β,?_,.none⟩) (hsz:=by rw [List.size_toArray,rr.length]; exact J9 (Nat.le_of_lt hz))
 exact hl.elim fun n hn=>.upd R hp (.head _) (Jd hs') (ZS.mk (vs:=vs++[x]) (List.push_toArray .. ▸ hl') ((rr.append (.one rv)).mono (YK hn (Jd hs')) (.refl _)))
theorem ziD (R:Rel c β H s.heap) {r:Nat} {p:Addr×Option Addr} {xs:List AV} {v:AV} (hp:β[r]?=some p) (hq:H[r]?=some (.list xs)) (hz:xs.length≤big) (hv:xs.getLast?=some v) :
  wpAny (model c.prog c.w) A (call (.builtin "list.pop") [.ref p.1]) (Res c s β (H.set r (.list xs.dropLast)) v) No s:=by
 refine OAt.lsI (P:=fun p=>β[r]?=some p→wpAny (model c.prog c.w) A (call (.builtin "list.pop") [.ref p.1]) (Res c s β (H.set r (.list xs.dropLast)) v) No s) (R.at_ r p _ hp hq) (fun a vs hl rr hp=>?_) hp
 obtain ⟨n,hl⟩:=hl
 obtain ⟨x,hx,rx⟩:=rr.getLast hv
 have hs:vs.toArray.size=vs.length:=List.size_toArray ..
 have hy:vs.toArray[vs.toArray.size - 1]?=some x:=by
  rw [hs,List.getElem?_toArray,← List.getLast?_eq_getElem?]; exact hx
 refine call_meets PySem.F.slot_list_pop ⟨_,hl,rfl⟩ PySem.F.entry_list_pop (PySem.F.args_list_pop_1 _) (PySem.MeetsSeq.list_pop_last a _ n x hy ?_) ⟨hl,β,?_,rx.mono (YK hl YM) (.refl _)⟩
 ·rw [hs,rr.length]; exact J9 hz
 ·refine .upd R hp (.head _) YM (ZS.mk (vs:=vs.dropLast) ?_ (rr.dropLast.mono (YK hl YM) (.refl _)))
  have q:=PySem.IsL.update (n:=n) hl fun xs=>xs.eraseIdxIfInBounds (vs.toArray.size - 1)
  rw [show vs.toArray.eraseIdxIfInBounds (vs.toArray.size - 1)=vs.dropLast.toArray from ?_] at q
  ·exact xp q
  ·apply Array.toList_inj.mp
   rw [Array.eraseIdxIfInBounds]
   split
   ·rename_i hh
    rw [Array.toList_eraseIdx]
    simp [List.eraseIdx_length_sub_one]
   ·rename_i hh
    have:vs=[]:=by
     apply List.length_eq_zero_iff.mp
     rw [hs] at hh
     omega
    subst this; rfl
end
end Mine
end
section
namespace Mine
open PySem PySem.W PyProof.Rows PySem.Calls
open Sem (wp)
section
variable {c:Cx} {A:Around} {s:Shared} {β:Bt} {H:AH}
theorem Res.int (R:Rel c β H s.heap) {h':Heap} {t:Nat} (k:∀ b o,s.heap.get? b=some o→h'.get? b=some o) (i:Int) (u:Tok):Res c s β H (.int i) (.int i u) { s with heap:=h',toks:=t } :=
 ⟨β,.grow R k,.int _ _⟩
theorem Res.int0 (R:Rel c β H s.heap) {t:Nat} (i:Int) (u:Tok):Res c s β H (.int i) (.int i u) { s with toks:=t } :=
 ⟨β,.tok R,.int _ _⟩
theorem xc (R:Rel c β H s.heap) {a:Addr} {vs:List Value} {n:Nat} (hl:s.heap.PlainList a vs.toArray) (h:vs.length=n) (hz:n≤big):wpAny (model c.prog c.w) A (call (.builtin "len") [.ref a]) (Res c s β H (.int n)) No s:=by
 subst h
 exact call_len_list hl.isList (zcz hz) (Res.int0 R _ _)
theorem za0 (R:Rel c β H s.heap) {xs:List AV} {u:Value} (ro:VR c s.heap β (.tup xs) u) (hz:xs.length≤big) :
  wpAny (model c.prog c.w) A (call (.builtin "len") [u]) (Res c s β H (.int xs.length)) No s :=
 ro.tupI fun a vs t r=>r.length ▸ PyProof.Rows.len_tuple t (zcz (n:=vs.length) (by rw [r.length]; exact hz)) (Res.int0 R _ _)
theorem jX (R:Rel c β H s.heap) {q:Nat} {xs:List AV} {u:Value} (ro:VR c s.heap β (.obj q) u) (hq:H[q]?=some (.list xs)) (hz:xs.length≤big) :
  wpAny (model c.prog c.w) A (call (.builtin "len") [u]) (Res c s β H (.int xs.length)) No s :=
 R.lsI ro hq fun a vs _ hl rr=>xc R hl rr.length hz
theorem xZ {scr:List Int} (S:zeJ c scr) (R:Rel c β H s.heap) {u:Value} (ro:VR c s.heap β (.cst 3) u) (hz:scr.length≤big) :
  wpAny (model c.prog c.w) A (call (.builtin "len") [u]) (Res c s β H (.int scr.length)) No s:=by
 obtain ⟨us,hl,r⟩:=S
 cases ro
 exact xc R (Vo (fun o e=>R.base _ o e) hl) (r.length.trans (List.length_map ..)) hz
theorem zix (R:Rel c β H s.heap) {i:Int} {u:Value} (ro:VR c s.heap β (.int i) u) :
  wpAny (model c.prog c.w) A (call (.builtin "isinstance") [u,.type "bool"]) (Res c s β H (.bool false)) No s :=
 ro.intI fun _=>IsiPair.int_bool ⟨β,.tok R,.bool _⟩
theorem zdN (R:Rel c β H s.heap) {q:Nat} {xs:List AV} {u:Value} (ro:VR c s.heap β (.obj q) u) (hq:H[q]?=some (.list xs)) (hz:xs.length≤big) :
  wpAny (model c.prog c.w) A (call (.type "tuple") [u]) (Res c s β H (.tup xs)) No s:=by
 refine R.lsI ro hq fun a vs _ hl rr=>call_tuple_list hl.isList (fun h' k=>?_) (by rw [List.size_toArray,rr.length]; exact J9 hz)
 have k':∀ b o,s.heap.get? b=some o→(h'.push { cls:=.type "tuple",data:=.seq vs.toArray }).get? b=some o:=fun b o e=>Heap.get?_push_of_some _ (k b o e)
 exact ⟨β,.grow R k',.tup ⟨_,Heap.get?_push_size _ rfl,rfl,0,rfl⟩ (rr.mono (.of_keep k') (.refl _))⟩
theorem zhj (R:Rel c β H s.heap) (hh:A.handled=none) {a b:Int} {u v:Value} (ra:VR c s.heap β (.int a) u) (rb:VR c s.heap β (.int b) v) :
  wpAny (model c.prog c.w) A (call (.builtin "max") [u,v]) (Res c s β H (.int (if a < b then b else a))) No s:=by
 refine ra.intI fun t=>rb.intI fun t'=>max_two_ints hh fun h' tk k=>?_
 by_cases q:a < b
 ·rw [if_pos q,if_pos q]; exact Res.int R k _ _
 ·rw [if_neg q,if_neg q]; exact Res.int R k _ _
theorem zh2 (R:Rel c β H s.heap) (hh:A.handled=none) {a b:Int} {u v:Value} (ra:VR c s.heap β (.int a) u) (rb:VR c s.heap β (.int b) v) :
  wpAny (model c.prog c.w) A (call (.builtin "min") [u,v]) (Res c s β H (.int (if b < a then b else a))) No s:=by
 refine ra.intI fun t=>rb.intI fun t'=>min_two_ints hh fun h' tk k=>?_
 by_cases q:b < a
 ·rw [if_pos q,if_pos q]; exact Res.int R k _ _
 ·rw [if_neg q,if_neg q]; exact Res.int R k _ _
end
end Mine
end
section
namespace Mine
open PySem PySem.W PyProof.Rows PySem.Calls PySem.Builtin.Str
open Sem (wp)
theorem zlN (n k:Nat) (hk:1≤k):strSliceIndices none (some (-(k:Int))) 1 n=(List.range (n - k)).map (0 + ·):=by
 have h:strSliceIndices none (some (-(k:Int))) 1 n=sliceRange ((0:Nat):Int) ((n - k:Nat):Int) 1:=by
  unfold strSliceIndices
  have:(-(k:Int)) < 0:=by lia
  simp only [show (1:Int) > 0 by decide,if_true,this]
  congr 1
  lia
 rw [h,sliceRange_one,Nat.sub_zero]
theorem zg9 (n k:Nat) (hk:1≤k):strSliceIndices (some (-(k:Int))) none 1 n=(List.range (n - (n - k))).map ((n - k) + ·):=by
 have h:strSliceIndices (some (-(k:Int))) none 1 n=sliceRange ((n - k:Nat):Int) ((n:Nat):Int) 1:=by
  unfold strSliceIndices
  have:(-(k:Int)) < 0:=by lia
  simp only [show (1:Int) > 0 by decide,if_true,this]
  congr 1
  lia
 rw [h,sliceRange_one]
theorem ql (cs:List Nat):∀ (m a:Nat),((List.range m).map (a + ·)).filterMap (fun j=>cs.toArray[j]?)=(cs.drop a).take m:=by
 intro m
 induction m with
 | zero=>intro a; simp
 | succ m ih =>
  intro a
  rw [List.range_succ_eq_map,List.map_cons,List.filterMap_cons,List.map_map]
  have e:List.map ((fun x=>a + x) ∘ Nat.succ) (List.range m)=(List.range m).map ((a + 1) + ·):=by
   apply List.map_congr_left
   intro x _
   show a + (x + 1)=a + 1 + x
   lia
  rw [e,ih (a + 1)]
  simp only [Nat.add_zero,List.getElem?_toArray]
  by_cases h:a < cs.length
  ·rw [List.getElem?_eq_getElem h,List.drop_eq_getElem_cons h]; rfl
  ·rw [List.getElem?_eq_none (by lia),List.drop_of_length_le (by lia),List.drop_of_length_le (by lia)]; simp
theorem zeB (cs:List Nat) (k:Nat) (hk:1≤k):Txt.slice (zh cs) none (some (-(k:Int)))=zh (cs.take (cs.length - k)):=by
 have hl:(zh cs).length=cs.length:=by show cs.toArray.size=_; simp
 unfold Txt.slice
 rw [hl,zlN _ _ hk]
 split
 ·rename_i h
  simp at h
  have:cs.take (cs.length - k)=cs:=by rw [h]; simp
  rw [this]
 ·show (⟨_⟩:Str)=⟨_⟩
  congr 1
  congr 1
  exact (ql cs _ 0).trans (by simp)
theorem zbP (cs:List Nat) (k:Nat) (hk:1≤k):Txt.slice (zh cs) (some (-(k:Int))) none=zh (cs.drop (cs.length - k)):=by
 have hl:(zh cs).length=cs.length:=by show cs.toArray.size=_; simp
 unfold Txt.slice
 rw [hl,zg9 _ _ hk]
 split
 ·rename_i h
  simp at h
  have:cs.length - k=0:=by lia
  rw [this]; rfl
 ·show (⟨_⟩:Str)=⟨_⟩
  congr 1
  congr 1
  refine (ql cs _ _).trans ?_
  rw [List.take_of_length_le]
  simp
section
variable {c:Cx} {A:Around} {s:Shared} {β:Bt} {H:AH} {env:Env}
theorem jM (R:Rel c β H s.heap) {value:Expr} {p:Pos} {q:Nat} {xs:List AV} {u:Value} (ro:VR c s.heap β (.obj q) u) (hq:H[q]?=some (.list xs)) (hz:xs.length≤big) :
  wpAny (model c.prog c.w) A (eval (.Slice none none none p) env) (fun i s₂=>wpAny (model c.prog c.w) A (subscriptTail value (.Slice none none none p) u i) (Res c s β (H++[.list xs]) (.obj H.length)) No s₂) No s:=by
 refine R.lsI ro hq fun a vs _ hl rr=>wpAny_Slice (evalPart_none_step (evalPart_none_step (evalPart_none_step ?_)))
 have hl':=hl.isList.push { cls:=.type "slice",data:=.fields #[.none,.none,.none] }
 refine tail_any hl'.typeIs list_getitem_lookup (wpAny_getItem_list_slice hl' (Heap.IsSliceOf.new ..) .none .none .none (by simp) ?_ (by rw [List.size_toArray,rr.length]; exact J9 hz)) rfl
 rw [slicePick_all]
 have x:Ext c none s { s with heap:=s.heap.push { cls:=.type "slice",data:=.fields #[.none,.none,.none] } } β β H:=.grow R fun b o e=>Heap.get?_push_of_some _ e
 exact (VU x.rel (x.vrs rr)).after x
theorem V3 (R:Rel c β H s.heap) {value:Expr} {lower upper:Option Expr} {p:Pos} {cs ds:List Nat} {l u:Option (Int×Tok)} {v:Value} (ro:VR c s.heap β (.str cs) v) (hz:cs.length≤1000)
  (hd:Txt.slice (zh cs) (l.map (·.1)) (u.map (·.1))=zh ds) :
  wpAny (model c.prog c.w) A (subscriptTail value (.Slice lower upper none p) v (.ref s.heap.objs.size)) (Res c s β H (.str ds)) No
   { s with heap:=s.heap.push { cls:=.type "slice",data:=.fields #[partValue l,partValue u,.none] } }:=by
 refine ro.strI fun t=>?_
 ·have hx:(zh cs).length≤sizeLine:=by rw [W9]; exact Nat.le_trans hz (by decide)
  have k:∀ b o,s.heap.get? b=some o→(s.heap.push { cls:=.type "slice",data:=.fields #[partValue l,partValue u,.none] }).get? b=some o:=fun b o e=>Heap.get?_push_of_some _ e
  refine tail_any (typeIs_str _ _ _) F.slot_str_getitem.lookup (wpAny_getItem_str_slice (l:=l) (u:=u) (st:=none) ⟨_,Heap.get?_push_size _ rfl,rfl,rfl⟩ rfl ?_) rfl
  unfold sliceMade
  by_cases hc:(((1:Int) == 1&&(strSliceIndices (l.map (·.1)) (u.map (·.1)) 1 (zh cs).length).length == (zh cs).length))=true
  ·have e1:zh cs=zh ds:=by rw [← hd]; unfold Txt.slice; rw [if_pos hc]
   rw [if_pos (show ((Option.map (fun x=>x.1) (none:Option (Int×Tok))).getD 1 == 1&&(slicePicked (zh cs) l u none).length == (zh cs).length)=true from hc),e1]
   exact ⟨β,.grow R k,.str _ _⟩
  ·have e1:(⟨((strSliceIndices (l.map (·.1)) (u.map (·.1)) 1 (zh cs).length).filterMap ((zh cs).cps[·]?)).toArray⟩:Str)=zh ds:=by
    rw [← hd]; unfold Txt.slice; rw [if_neg hc]
   rw [if_neg (show ¬ ((Option.map (fun x=>x.1) (none:Option (Int×Tok))).getD 1 == 1&&(slicePicked (zh cs) l u none).length == (zh cs).length)=true from hc)]
   have hl:=Txt.slice_le (zh cs) (l.map (·.1)) (u.map (·.1))
   rw [hd] at hl
   have e2:(⟨((slicePicked (zh cs) l u none).filterMap ((zh cs).cps[·]?)).toArray⟩:Str)=zh ds:=e1
   rw [e2]
   exact ⟨Nat.le_trans hl hx,β,.grow R k,.str _ _⟩
end
end Mine
end
section
namespace Mine
open PySem PySem.W PyProof.Rows PySem.Calls
open Sem (wp)
section
variable {c:Cx} {A:Around} {s:Shared} {β:Bt} {H:AH}
theorem VR.handed {h:Heap} {x:AV} {v:Value} (r:VR c h β x v):handedIn v=true :=
 r.rec (motive_1:=fun _ v _=>handedIn v=true) (motive_2:=fun _ _ _=>True) rfl (fun _=>rfl) (fun _ _=>rfl) (fun _ _=>rfl) (fun _=>rfl) (fun _=>rfl) (fun _ _ _=>rfl) ⟨⟩ fun _ _ _ _=>⟨⟩
structure Gf (K:Frag) (C:Addr) (name:Str):Prop where
 get:findIn K (.ref C) "__getattribute__"=some (some (.builtin "object.__getattribute__"))
 set:findIn K (.ref C) "__setattr__"=some (some (.builtin "object.__setattr__"))
 dict:hasDictIn K C=true
 plain:plainOver K C=true
 find:findIn K (.ref C) name=some none
theorem Zc {K:Frag} {C:Addr} {name:Str} (h:YD K C name=true):Gf K C name :=
 have h1:=tt h
 have h2:=tt h1.1
 have h3:=tt h2.1
 have h4:=tt h3.1
 ⟨eq_of_beq h4.1,eq_of_beq h4.2,h3.2,h2.2,eq_of_beq h1.2⟩
theorem YS (x:Str) (t:Tok):(Value.str x t).isStr x=true:=by simp [Value.isStr]
theorem xg {x y:Str} (t:Tok) (h:x≠y):(Value.str x t).isStr y=false:=by
 simp [Value.isStr,h]
theorem zfk {i r:Nat} (e:i≠r):Nat.beq i r=false:=Bool.eq_false_iff.mpr fun z=>e (Nat.eq_of_beq_eq_true z)
theorem FR.look {h:Heap} (inj:∀ i j,c.fld i=c.fld j→i=j) {es:List DictEntry} {fs:List (Nat×AV)} (r:FR c h β es fs) (n m:Nat) :
  ∃ o,PySem.W.lookIn (c.fld n) (dictOf es m)=some o∧Hit c h β (zc n fs) o:=by
 have key:(es.any (·.refKey))=false∧∃ o,es.find? (·.key.isStr (c.fld n))=o∧Hit c h β (zc n fs) (o.map (·.val)):=by
  induction r with
  | nil=>exact ⟨rfl,none,rfl,.miss⟩
  | @cons e es j t x fs hk hv r ih =>
   refine ⟨?_,?_⟩
   ·rw [List.any_cons,ih.1,Bool.or_false]
    unfold DictEntry.refKey; rw [hk]
   ·by_cases q:j=n
    ·subst q
     refine ⟨some e,?_,?_⟩
     ·rw [List.find?_cons,hk,YS]
     ·rw [VY,Nat.beq_refl]; exact .hit hv
    ·rw [List.find?_cons,hk,xg t fun z=>q (inj _ _ z),VY,zfk q]; exact ih.2
 obtain ⟨k1,o,k2,k3⟩:=key
 refine ⟨_,?_,k3⟩
 unfold PySem.W.lookIn
 show (match es.toArray.toList.find? _ with | some e=>_ | none=>_)=_
 rw [List.toList_toArray,k2]
 induction o using Option.casesOn with
 | none=>show (if _ then _ else _)=_; rw [k1]; rfl
 | some e=>rfl
theorem FR.put {h:Heap} (inj:∀ i j,c.fld i=c.fld j→i=j) {n:Nat} {x:AV} {v:Value} (hx:VR c h β x v) (hs:Int) (t:Tok) {es:List DictEntry} {fs:List (Nat×AV)} (r:FR c h β es fs) :
  FR c h β (putIn (·.key.isStr (c.fld n)) (fun e=>{ e with val:=v }) ⟨hs,.str (c.fld n) t,v⟩ es) (zf n x fs):=by
 induction r with
 | nil=>exact .cons rfl hx .nil
 | @cons e es j t' y fs hk hv r ih =>
  by_cases q:j=n
  ·subst q
   rw [putIn_hit _ _ _ _ _ (by rw [hk]; exact YS _ _),zf,Nat.beq_refl]
   exact .cons hk hx r
  ·rw [putIn_miss _ _ _ _ _ (by rw [hk]; exact xg _ fun z=>q (inj _ _ z)),zf,zfk q]
   exact .cons hk hv ih
theorem FR.length {h:Heap} {es:List DictEntry} {fs:List (Nat×AV)} (r:FR c h β es fs):es.length=fs.length:=by
 induction r with
 | nil=>rfl
 | cons _ _ _ ih=>simp [ih]
theorem xu (n:Nat) (x:AV) (fs:List (Nat×AV)):(zf n x fs).length≤fs.length + 1:=by
 induction fs with
 | nil=>exact Nat.le_refl _
 | cons p r ih =>
  rw [zhf]
  cases Nat.beq p.1 n with
  | true=>exact Nat.le_succ _
  | false=>exact Nat.succ_le_succ ih
theorem j6 {h:Heap} {k a dx m:Nat} {es:List DictEntry} (h1:h.get? a=some (instObj (c.cls k) dx)) (h2:h.get? dx=some (dictOf es m)):InstAt h a (instObj (c.cls k) dx) (c.cls k) (some (dictOf es m)):=⟨h1,rfl,rfl,h2⟩
theorem Yc (B:Bs c) (R:Rel c β H s.heap) {o v:AV} {n:Nat} {u:Value} {ex:Bool} (ro:VR c s.heap β o u) (e:yI H o n=some v) :
  wpAny (model c.prog c.w) A (getAttr u (c.fld n) ex) (Res c s β H v) No s:=by
 refine KH e fun r er e=>xy e fun k fs hq e=>og e fun hf e0=>?_
 subst er
 refine R.obI ro hq fun p hp hat=>hat.inI fun a dx m es h1 h2 rf=>?_
 have g:=Zc (B.fld _ _ hf)
 have I:=j6 h1 h2
 obtain ⟨o,b,d⟩:=rf.look B.finj n m
 rw [e0] at d
 exact d.some fun w ew d=>get_value (B.kin.keeps R.base) I g.get (findObj_own g.dict g.find rfl (ew ▸ b)) d.handed ⟨β,.tok R,d⟩
theorem Rel.updL {h h':Heap} (R:Rel c β H h) {r:Nat} {p:Addr×Option Addr} {a L:Addr} {o:AO} (e:β[r]?=some p) (ha:a∈foot p) (hL:L∉yp β) (h0:c.h₀.get? L=none) (tk:zw h h')
  (k:∀ b x,b≠a→b≠L→h.get? b=some x→h'.get? b=some x) (ho:OAt c h' β p o):Rel c β (H.set r o) h':=by
 refine ⟨by simp [R.len],fun q p' x e1 e2=>?_,fun b o e1=>k _ _ (fun z=>?_) (fun z=>?_) (R.base b o e1),R.off,R.nd⟩
 ·by_cases hq:q=r
  ·subst hq
   have hl:q < H.length:=by rw [← R.len]; exact (List.getElem?_eq_some_iff.mp e).1
   rw [List.getElem?_set_self hl] at e2
   cases e2
   rw [e] at e1
   cases e1
   exact ho
  ·rw [List.getElem?_set_ne (Ne.symm hq)] at e2
   exact (R.at_ q p' x e1 e2).mono (fun b hb x z=>k b x (fun w=>by subst w; exact hq (Vs R.nd e1 e hb ha)) (fun w=>by subst w; exact hL (zN e1 hb)) z) tk (.refl _)
 ·subst z
  have:=R.off b (zN e ha)
  rw [e1] at this; cases this
 ·subst z
  rw [e1] at h0; cases h0
theorem Ext.updL {h':Heap} {t:Nat} (R:Rel c β H s.heap) {r:Nat} {p:Addr×Option Addr} {a L:Addr} {o:AO} (e:β[r]?=some p) (ha:a∈foot p) (hL:L∉yp β) (h0:c.h₀.get? L=none) (tk:zw s.heap h')
  (k:∀ b x,b≠a→b≠L→s.heap.get? b=some x→h'.get? b=some x) (ho:OAt c h' β p o):Ext c (some L) s { s with heap:=h',toks:=t } β β (H.set r o) :=
 ⟨⟨h',t,rfl⟩,.refl _,fun b o hn hb e'=>k b o (fun z=>hb (z ▸ zN e ha)) (fun z=>hn (z ▸ rfl)) e',fun _ h h'=>absurd h h',tk,R.updL e ha hL h0 tk k ho⟩
noncomputable def Vd:Heap:={ objs:=#[] }
theorem Wx (b:Addr):Vd.get? b=none:=by
 cases q:Vd.get? b with
 | none=>rfl
 | some o=>exact absurd (Heap.lt_size q) (Nat.not_lt_zero _)
noncomputable def zcc (h:Heap) (L dx:Addr):List (Addr×Obj):=(List.range h.objs.size).filterMap fun b=>if b=L∨b=dx then none else (h.get? b).map fun o=>(b,o)
theorem Kf {h:Heap} {L dx:Addr} {p:Addr×Obj}:p∈zcc h L dx↔p.1≠L∧p.1≠dx∧h.get? p.1=some p.2:=by
 obtain ⟨b,o⟩:=p
 unfold zcc
 rw [List.mem_filterMap]
 constructor
 ·rintro ⟨a,_,ha⟩
  split at ha
  ·cases ha
  ·rename_i q
   obtain ⟨o',ho,z⟩:=Option.map_eq_some_iff.mp ha
   cases z
   exact ⟨fun z=>q (.inl z),fun z=>q (.inr z),ho⟩
 ·rintro ⟨a,b',d⟩
  refine ⟨b,List.mem_range.mpr (Heap.lt_size d),?_⟩
  rw [if_neg (by rintro (z | z) <;> contradiction)]
  dsimp only at d
  rw [d]; rfl
theorem zcA {h h':Heap} {L dx:Addr} {mp:Str→Option Value} {es:List DictEntry} {m:Nat} (hL:h.Ns L mp) (hd:h.get? dx=some (dictOf es m)) (kp:∀ b x,b≠dx→b≠L→h.get? b=some x→h'.get? b=some x):zw h h':=by
 rintro b its ⟨o,ho,hc,n,z⟩
 refine ⟨o,kp b o (fun q=>?_) (fun q=>?_) ho,hc,n,z⟩
 ·subst q
  cases hd.symm.trans ho
  exact absurd (Value.type.inj hc) (by decide)
 ·subst q
  obtain ⟨o',es',ep,ho',hc',_⟩:=hL
  cases ho.symm.trans ho'
  cases z.symm.trans hc'
theorem zay (B:Bs c) (R:Rel c β H s.heap) {L:Addr} {mp:Str→Option Value} (hL:s.heap.Ns L mp) (oL:L∉yp β) (h0:c.h₀.get? L=none) {o v:AV} {n:Nat} {H':AH} {u w:Value} (ro:VR c s.heap β o u) (rv:VR c s.heap β v w) (e:yv H o n v=some H') :
  wpAny (model c.prog c.w) A (setAttr u (c.fld n) w) (fun _ s'=>Ext c (some L) s s' β β H'∧s'.heap.Ns L mp) No s:=by
 refine KH e fun r er e=>xy e fun k fs hq e=>og e fun hf e=>oe (P:=fun H'=>wpAny (model c.prog c.w) A (setAttr u (c.fld n) w) (fun _ s'=>Ext c (some L) s s' β β H'∧s'.heap.Ns L mp) No s) e ?_
 subst er
 refine R.obI ro hq fun p g hat=>OAt.inI (P:=fun p=>β[r]?=some p→wpAny (model c.prog c.w) A (setAttr (.ref p.1) (c.fld n) w) (fun _ s'=>Ext c (some L) s s' β β (H.set r (.inst k (zf n v fs)))∧s'.heap.Ns L mp) No s) hat (fun a dx m es h1 hd rf g=>?_) g
 have gf:=Zc (B.fld _ _ hf.1)
 have I:=j6 h1 hd
 have hdx:dx∈foot (a,some dx):=.tail _ (.head _)
 have F:Fr Vd L s.heap mp:=⟨hL,(fun b o e=>by rw [Wx] at e; cases e),Nat.zero_le _⟩
 have N:News Vd L s.heap ([]++(dx,dictOf es m)::zcc s.heap L dx):=fun p hp=>(List.mem_cons.mp hp).elim (fun e=>e ▸ ⟨hd,fun z=>oL (z ▸ zN g hdx),Wx _⟩) fun hp=>⟨(Kf.mp hp).2.2,(Kf.mp hp).1,Wx _⟩
 refine set_plain (B.kin.keeps R.base) I gf.set ?_
 have rf':=rf.put B.finj (n:=n) rv (PyData.keyHash c.w.params (c.fld n)) (s.toks + 1)
 refine osa_dict (s:={ s with toks:=s.toks + 1 }) F N (B.kin.keeps R.base) I rfl gf.plain (by unfold takerIn; rw [gf.find]; rfl) gf.dict ?_ (fun _ hp=>nomatch hp) (fun p hp=>(Kf.mp hp).2.1) (putName_eq _ _ _ _ _ _ _ _ _) rfl ?_ fun h' F' N'=>?_
 ·exact (rf.look B.finj n m).elim fun o b=>by rw [b.1]; rfl
 ·rw [rf'.length]
  exact Nat.le_trans (xu n v fs) (Nat.le_trans hf.2 (by decide))
 ·have kp:∀ b x',b≠dx→b≠L→s.heap.get? b=some x'→h'.get? b=some x':=fun b x' h1 h2 h3=>(N' (b,x') (.tail _ (Kf.mpr ⟨h2,h1,h3⟩))).1
  have hne:a≠dx:=fun z=>by have i:=h1; rw [z,hd] at i; cases i
  exact ⟨.updL R g hdx oL h0 (zcA hL hd kp) kp (zbB.mk (kp _ _ hne (fun z=>oL (z ▸ zN g (.head _))) h1) (N' _ (.head _)).1 (rf'.mono (zcA hL hd kp) (.refl _))),F'.ns⟩
end
end Mine
end
section
namespace Mine
open PySem PySem.W PyProof.Rows PySem.Calls
open Sem (wp)
structure RN (n:Nat) (A:Around):Prop where
 hnd:A.handled=none
 dep:A.depth + 4 * n≤900
 uni:A.units + 30 * n≤9000
structure RC (n:Nat) (A:Around):Prop where
 hnd:A.handled=none
 dep:A.depth + 4 * n≤903
 uni:A.units + 30 * n≤9020
theorem RN.rc {n:Nat} {A:Around} (r:RN n A):RC n A:=⟨r.hnd,Nat.le_trans r.dep (by decide),Nat.le_trans r.uni (by decide)⟩
theorem RN.tk {n:Nat} {A:Around} (r:RN n A):yh A:=by
 exact Nat.lt_of_le_of_lt (Nat.add_le_add_right (Nat.le_trans (Nat.le_add_right _ _) r.uni) 100) (by decide)
theorem RC.deeper {n:Nat} {A:Around} (r:RC (n + 1) A) (env:Env):RN n (A.deeper env):=by
 refine ⟨r.hnd,?_,?_⟩
 ·show A.depth + 1 + 4 * n≤900
  have:=r.dep
  lia
 ·show A.units + 3 + 30 * n≤9000
  have:=r.uni
  lia
noncomputable def OkV (Q:Value→Shared→Prop):Result→Shared→Prop:=fun r s'=>match r with
 | .ok (.ret u)=>Q u s'
 | _=>False
theorem Yx {M:Model} {A:Around} {s:Shared} {f:Value} {us:List Value} {Q:Value→Shared→Prop} (h:codeAny M A (.call f ⟨us,[]⟩) (OkV Q) s):wpAny M A (call f us) Q No s :=
 wpAny_call (codeAny_mono h fun r s' z=>by rcases r with e | (v | _ | _ | _) <;> first | exact z | exact z.elim)
noncomputable def jZ (c:Cx) (f:Nat):Prop:=∃ o fd,c.h₀.get? (c.fn f)=some o∧o.data=.func fd∧typeIn c.K (.ref (c.fn f))=some (.type "function")
noncomputable def CS (c:Cx) (Cf:zi) (n:Nat):Prop:=∀ f args H v H',Cf f args H=some (v,H')→jZ c f∧∀ A s β us,RC n A→Rel c β H s.heap→VRs c s.heap β args us →
 codeAny (model c.prog c.w) A (.call (.ref (c.fn f)) ⟨us,[]⟩) (OkV (Res c s β H' v)) s
inductive zeu (c:Cx) (s:Shared) (β:Bt) (H':AH) (vs:List AV) (us:List Value) (s':Shared):Prop
 | mk (β':Bt) (x:Ext c none s s' β β' H') (r:VRs c s'.heap β' vs us)
section
variable {c:Cx} {A:Around} {s:Shared} {β:Bt} {H H' H₁:AH}
theorem zcM {f:Value} {ts:List (Bool×Sem Value)} {Q:Args→Shared→Prop} {M:Model} {E:Value→Shared→Prop} (ht:(ts.all fun t=>!t.1)=true)
  (h:wpAny M A (spliced ts) (fun vs s'=>Q ⟨vs,[]⟩ s') E s):wpAny M A (evalArgs f true ts []) Q E s:=by
 induction ts using List.casesOn with
 | nil =>
  unfold evalArgs
  show wpAny M A (spliced [] >>= _) Q E s
  refine wpAny_bind (wpAny_mono h (fun vs s' h'=>?_) fun _ _ e=>e)
  refine wpAny_bind (wpAny_pure ?_)
  refine wpAny_holding ?_
  exact wpAny_bind (wpAny_pure (wpAny_bind (wpAny_pure (wpAny_pure h'))))
 | cons t ts =>
  obtain ⟨b,x⟩:=t
  induction b using Bool.casesOn with
  | true=>simp at ht
  | false=>exact evalArgs_plain h
theorem zbL {ts:List (Bool×Sem Value)} (ht:(ts.all fun t=>!t.1)=true):ts.any (·.1)=false:=by
 rw [List.any_eq_false]
 intro t h
 have:=List.all_eq_true.mp ht t h
 simpa using this
theorem xO {Cf:zi} {n:Nat} (C:CS c Cf n) (hA:RC n A) {ts:List (Bool×Sem Value)} (ht:(ts.all fun t=>!t.1)=true) {pos:Pos} {f:Nat} {first:List Value} {fs args:List AV} {v:AV}
  (hf:VRs c s.heap β fs first) (h:wpAny (model c.prog c.w) A (spliced ts) (zeu c s β H₁ args) No s) (e:Cf f (fs++args) H₁=some (v,H')) :
  wpAny (model c.prog c.w) A (callWith pos (.ref (c.fn f)) first ts []) (Res c s β H' v) No s:=by
 obtain ⟨⟨o,fd,ho,hd,_⟩,cs⟩:=C _ _ _ _ _ e
 refine callWith_function (o:=o) (fd:=fd) (zcM ht (wpAny_mono h (fun us s₁ z=>zeu.casesOn z fun β₁ x r=>⟨⟨x.base _ _ ho,hd⟩,yK x (Yx (cs A s₁ β₁ _ hA x.rel ((x.vrs hf).append r)))⟩) fun _ _ e=>e))
noncomputable def Yz (K:Frag) (C:Addr) (fI:Option Addr):Bool :=
 makesIn K C&&keepIn K (.ref C)&&(match fI with
  | some f=>findIn K (.ref C) "__init__" == some (some (.ref f))&&typeIn K (.ref f) == some (.type "function")
  | none=>findIn K (.ref C) "__init__" == some (some (.builtin "object.__init__")))
theorem zcE (R:Rel c β H s.heap) (k:Nat):Ext c none s { s with heap:=(s.heap.push emptyDict).push (instObj (c.cls k) s.heap.objs.size) } β (β++[(s.heap.objs.size + 1,some s.heap.objs.size)]) (H++[.inst k []]):=by
 have no:∀ b,s.heap.objs.size≤b→s.heap.get? b=none:=fun b hb=>by
  cases q:s.heap.get? b with
  | none=>rfl
  | some o=>exact absurd (Heap.lt_size q) (Nat.not_lt.mpr hb)
 have kp:∀ b o,s.heap.get? b=some o→((s.heap.push emptyDict).push (instObj (c.cls k) s.heap.objs.size)).get? b=some o:=fun b o e=>Heap.get?_push_of_some _ (Heap.get?_push_of_some _ e)
 have h1:((s.heap.push emptyDict).push (instObj (c.cls k) s.heap.objs.size)).get? (s.heap.objs.size + 1)=some (instObj (c.cls k) s.heap.objs.size):=by
  have:=Heap.get?_push_size (s.heap.push emptyDict) (o:=instObj (c.cls k) s.heap.objs.size) rfl
  rwa [Heap.size_push] at this
 have h2:((s.heap.push emptyDict).push (instObj (c.cls k) s.heap.objs.size)).get? s.heap.objs.size=some emptyDict :=
  Heap.get?_push_of_some _ (Heap.get?_push_size _ rfl)
 refine .new (s:=s) (t:=s.toks) R kp ?_ ?_ (zbB.mk (n:=0) h1 h2 .nil)
 ·exact fun b hb=>(List.mem_cons.mp hb).elim (fun e=>e ▸ no _ (Nat.le_succ _)) fun hb=>List.mem_singleton.mp hb ▸ no _ (Nat.le_refl _)
 ·simp [foot]
theorem zeA (r:List Value) (C:Addr) {n:Nat} (hA:RN n A):RC n (A.under (.builtin "type.__call__" ⟨.ref C::r,[]⟩)):=by
 have w:(Code.builtin "type.__call__" ⟨.ref C::r,[]⟩).weight=1:=by kernel_rfl
 have u:(Code.builtin "type.__call__" ⟨.ref C::r,[]⟩).cUnits=1:=by kernel_rfl
 refine ⟨hA.hnd,?_,?_⟩
 ·show A.depth + (Code.builtin "type.__call__" ⟨.ref C::r,[]⟩).weight + 4 * n≤903
  rw [w,Nat.add_right_comm]; exact Nat.le_trans (Nat.succ_le_succ hA.dep) (by decide)
 ·show A.units + (Code.builtin "type.__call__" ⟨.ref C::r,[]⟩).cUnits + 30 * n≤9020
  rw [u,Nat.add_right_comm]; exact Nat.le_trans (Nat.succ_le_succ hA.uni) (by decide)
theorem ze0 (kin:c.K.In c.h₀) (R:Rel c β H s.heap) {k:Nat} (g:Yz c.K (c.cls k) none=true) :
  codeAny (model c.prog c.w) A (.call (.ref (c.cls k)) ⟨[],[]⟩) (OkV (Res c s β (H++[.inst k []]) (.obj H.length))) s:=by
 have g1:=(tt (tt g).1).1
 have g3:=eq_of_beq (tt g).2
 have x:=zcE R k
 have X:=kin.keeps R.base
 obtain ⟨hh,g,d,t,os⟩:=s
 have Y:=makes_of (M:=model c.prog c.w) X g1
 refine make_core Y (looks_findIn X g3) (fun self=>Looks.of_pure (oi_bind self)) (.inr ⟨rfl,rfl⟩) ?_
 have hx:((hh.push emptyDict).push (instObj (c.cls k) hh.objs.size)).get? (hh.objs.size + 1)=some (instObj (c.cls k) hh.objs.size):=by
  have:=Heap.get?_push_size (hh.push emptyDict) (o:=instObj (c.cls k) hh.objs.size) rfl
  rwa [Heap.size_push] at this
 have t1:Looks (model c.prog c.w) ((hh.push emptyDict).push (instObj (c.cls k) hh.objs.size)) (typeOf (.ref (hh.objs.size + 1))) (.ref (c.cls k)):=(Looks.ld hx).andThen .now
 have t2:Looks (model c.prog c.w) ((hh.push emptyDict).push (instObj (c.cls k) hh.objs.size)) (isInstance (.ref (hh.objs.size + 1)) (.type "object")) true :=
  t1.andThen (Y.top.keeps fun b o e=>Heap.get?_push_of_some _ (Heap.get?_push_of_some _ e))
 refine codeAny_call_builtin oi_plain entry_oi (@check_slot (model c.prog c.w) _ _ _ "object.__init__" "object" "__init__" (.ref (hh.objs.size + 1)) [] [] _ oi_kind oi_split t2 (oi_args (.ref (hh.objs.size + 1))) ?_)
 rw [oi_run]
 refine wpAny_pure (And.intro rfl ⟨_,x,?_⟩)
 refine .obj (d:=some hh.objs.size) ?_
 rw [← R.len]; simp
theorem zfe (kin:c.K.In c.h₀) {Cf:zi} {n:Nat} (C:CS c Cf n) (hA:RN n A) (R:Rel c β H s.heap) {k f:Nat} (g:Yz c.K (c.cls k) (some (c.fn f))=true) {us:List Value} {args:List AV} (hu:VRs c s.heap β args us)
  (e:Cf f (.obj H.length::args) (H++[.inst k []])=some (.none,H')) :
  codeAny (model c.prog c.w) A (.call (.ref (c.cls k)) ⟨us,[]⟩) (OkV (Res c s β H' (.obj H.length))) s:=by
 have g1:=(tt (tt g).1).1
 have g3:=eq_of_beq (tt (tt g).2).1
 have g4:=eq_of_beq (tt (tt g).2).2
 have x:=zcE R k
 have X:=kin.keeps R.base
 have r0:VR c ((s.heap.push emptyDict).push (instObj (c.cls k) s.heap.objs.size)) (β++[(s.heap.objs.size + 1,some s.heap.objs.size)]) (.obj H.length) (.ref (s.heap.objs.size + 1)):=by
  refine .obj (d:=some s.heap.objs.size) ?_
  rw [← R.len]; simp
 have cs:=(C _ _ _ _ _ e).2 _ _ _ (.ref (s.heap.objs.size + 1)::us) (zeA us (c.cls k) hA) x.rel (.cons r0 (x.vrs hu))
 obtain ⟨hh,g,d,t,os⟩:=s
 refine make_core (makes_of X g1) (looks_findIn X g3) (fun self=>bind_fn X self g4) (.inl rfl) (codeAny_mono cs fun r s' z=>?_)
 rcases r with e | (v | _ | _ | _) <;> first | exact z.elim | skip
 obtain ⟨β',y,q⟩:=z
 cases q
 exact And.intro rfl ⟨β',x.trans y,y.vr r0⟩
end
end Mine
end
section
namespace Mine
open PySem
noncomputable def xA (e:Expr) (f:BoolOp→List Expr→Pos→Bool):Bool:=if q:Nat.beq e.ctorIdx 0=true then Expr.BoolOp.elim (motive_1:=fun _=>Bool) e (Nat.eq_of_beq_eq_true q) f else false
@[elab_as_elim] theorem qm {e:Expr} {f:BoolOp→List Expr→Pos→Bool} {P:Expr→Prop} (h:xA e f=true) (nx:∀ a b c,f a b c=true→P (.BoolOp a b c)):P e:=by
 by_cases q:Nat.beq e.ctorIdx 0=true
 ·unfold xA at h
  rw [dif_pos q] at h
  exact Expr.BoolOp.elim (motive_1:=fun e=>∀ q,Expr.BoolOp.elim (motive_1:=fun _=>Bool) e q f=true→P e) e (Nat.eq_of_beq_eq_true q) (fun a b c _ h=>nx a b c h) (Nat.eq_of_beq_eq_true q) h
 ·unfold xA at h
  rw [dif_neg q] at h; exact nomatch h
noncomputable def zcD (e:Expr) (f:Expr→Operator→Expr→Pos→Bool):Bool:=if q:Nat.beq e.ctorIdx 2=true then Expr.BinOp.elim (motive_1:=fun _=>Bool) e (Nat.eq_of_beq_eq_true q) f else false
@[elab_as_elim] theorem qi {e:Expr} {f:Expr→Operator→Expr→Pos→Bool} {P:Expr→Prop} (h:zcD e f=true) (nx:∀ a b c d,f a b c d=true→P (.BinOp a b c d)):P e:=by
 by_cases q:Nat.beq e.ctorIdx 2=true
 ·unfold zcD at h
  rw [dif_pos q] at h
  exact Expr.BinOp.elim (motive_1:=fun e=>∀ q,Expr.BinOp.elim (motive_1:=fun _=>Bool) e q f=true→P e) e (Nat.eq_of_beq_eq_true q) (fun a b c d _ h=>nx a b c d h) (Nat.eq_of_beq_eq_true q) h
 ·unfold zcD at h
  rw [dif_neg q] at h; exact nomatch h
noncomputable def qy (e:Expr) (f:UnaryOp→Expr→Pos→Bool):Bool:=if q:Nat.beq e.ctorIdx 3=true then Expr.UnaryOp.elim (motive_1:=fun _=>Bool) e (Nat.eq_of_beq_eq_true q) f else false
@[elab_as_elim] theorem W6 {e:Expr} {f:UnaryOp→Expr→Pos→Bool} {P:Expr→Prop} (h:qy e f=true) (nx:∀ a b c,f a b c=true→P (.UnaryOp a b c)):P e:=by
 by_cases q:Nat.beq e.ctorIdx 3=true
 ·unfold qy at h
  rw [dif_pos q] at h
  exact Expr.UnaryOp.elim (motive_1:=fun e=>∀ q,Expr.UnaryOp.elim (motive_1:=fun _=>Bool) e q f=true→P e) e (Nat.eq_of_beq_eq_true q) (fun a b c _ h=>nx a b c h) (Nat.eq_of_beq_eq_true q) h
 ·unfold qy at h
  rw [dif_neg q] at h; exact nomatch h
noncomputable def zcX (e:Expr) (f:List (Option Expr)→List Expr→Pos→Bool):Bool:=if q:Nat.beq e.ctorIdx 6=true then Expr.Dict.elim (motive_1:=fun _=>Bool) e (Nat.eq_of_beq_eq_true q) f else false
@[elab_as_elim] theorem zdE {e:Expr} {f:List (Option Expr)→List Expr→Pos→Bool} {P:Expr→Prop} (h:zcX e f=true) (nx:∀ a b c,f a b c=true→P (.Dict a b c)):P e:=by
 by_cases q:Nat.beq e.ctorIdx 6=true
 ·unfold zcX at h
  rw [dif_pos q] at h
  exact Expr.Dict.elim (motive_1:=fun e=>∀ q,Expr.Dict.elim (motive_1:=fun _=>Bool) e q f=true→P e) e (Nat.eq_of_beq_eq_true q) (fun a b c _ h=>nx a b c h) (Nat.eq_of_beq_eq_true q) h
 ·unfold zcX at h
  rw [dif_neg q] at h; exact nomatch h
noncomputable def zc7 (e:Expr) (f:Expr→List CmpOp→List Expr→Pos→Bool):Bool:=if q:Nat.beq e.ctorIdx 15=true then Expr.Compare.elim (motive_1:=fun _=>Bool) e (Nat.eq_of_beq_eq_true q) f else false
@[elab_as_elim] theorem zdx {e:Expr} {f:Expr→List CmpOp→List Expr→Pos→Bool} {P:Expr→Prop} (h:zc7 e f=true) (nx:∀ a b c d,f a b c d=true→P (.Compare a b c d)):P e:=by
 by_cases q:Nat.beq e.ctorIdx 15=true
 ·unfold zc7 at h
  rw [dif_pos q] at h
  exact Expr.Compare.elim (motive_1:=fun e=>∀ q,Expr.Compare.elim (motive_1:=fun _=>Bool) e q f=true→P e) e (Nat.eq_of_beq_eq_true q) (fun a b c d _ h=>nx a b c d h) (Nat.eq_of_beq_eq_true q) h
 ·unfold zc7 at h
  rw [dif_neg q] at h; exact nomatch h
noncomputable def Z8 (e:Expr) (f:Expr→List Expr→List Keyword→Pos→Bool):Bool:=if q:Nat.beq e.ctorIdx 16=true then Expr.Call.elim (motive_1:=fun _=>Bool) e (Nat.eq_of_beq_eq_true q) f else false
@[elab_as_elim] theorem WH {e:Expr} {f:Expr→List Expr→List Keyword→Pos→Bool} {P:Expr→Prop} (h:Z8 e f=true) (nx:∀ a b c d,f a b c d=true→P (.Call a b c d)):P e:=by
 by_cases q:Nat.beq e.ctorIdx 16=true
 ·unfold Z8 at h
  rw [dif_pos q] at h
  exact Expr.Call.elim (motive_1:=fun e=>∀ q,Expr.Call.elim (motive_1:=fun _=>Bool) e q f=true→P e) e (Nat.eq_of_beq_eq_true q) (fun a b c d _ h=>nx a b c d h) (Nat.eq_of_beq_eq_true q) h
 ·unfold Z8 at h
  rw [dif_neg q] at h; exact nomatch h
noncomputable def Yj (e:Expr) (f:Const→Nat→Pos→Bool):Bool:=if q:Nat.beq e.ctorIdx 19=true then Expr.Constant.elim (motive_1:=fun _=>Bool) e (Nat.eq_of_beq_eq_true q) f else false
@[elab_as_elim] theorem Jj {e:Expr} {f:Const→Nat→Pos→Bool} {P:Expr→Prop} (h:Yj e f=true) (nx:∀ a b c,f a b c=true→P (.Constant a b c)):P e:=by
 by_cases q:Nat.beq e.ctorIdx 19=true
 ·unfold Yj at h
  rw [dif_pos q] at h
  exact Expr.Constant.elim (motive_1:=fun e=>∀ q,Expr.Constant.elim (motive_1:=fun _=>Bool) e q f=true→P e) e (Nat.eq_of_beq_eq_true q) (fun a b c _ h=>nx a b c h) (Nat.eq_of_beq_eq_true q) h
 ·unfold Yj at h
  rw [dif_neg q] at h; exact nomatch h
noncomputable def YW (e:Expr) (f:Expr→Str→Pos→Bool):Bool:=if q:Nat.beq e.ctorIdx 20=true then Expr.Attribute.elim (motive_1:=fun _=>Bool) e (Nat.eq_of_beq_eq_true q) f else false
@[elab_as_elim] theorem KU {e:Expr} {f:Expr→Str→Pos→Bool} {P:Expr→Prop} (h:YW e f=true) (nx:∀ a b c,f a b c=true→P (.Attribute a b c)):P e:=by
 by_cases q:Nat.beq e.ctorIdx 20=true
 ·unfold YW at h
  rw [dif_pos q] at h
  exact Expr.Attribute.elim (motive_1:=fun e=>∀ q,Expr.Attribute.elim (motive_1:=fun _=>Bool) e q f=true→P e) e (Nat.eq_of_beq_eq_true q) (fun a b c _ h=>nx a b c h) (Nat.eq_of_beq_eq_true q) h
 ·unfold YW at h
  rw [dif_neg q] at h; exact nomatch h
noncomputable def V8 (e:Expr) (f:Expr→Expr→Pos→Bool):Bool:=if q:Nat.beq e.ctorIdx 21=true then Expr.Subscript.elim (motive_1:=fun _=>Bool) e (Nat.eq_of_beq_eq_true q) f else false
@[elab_as_elim] theorem Ji {e:Expr} {f:Expr→Expr→Pos→Bool} {P:Expr→Prop} (h:V8 e f=true) (nx:∀ a b c,f a b c=true→P (.Subscript a b c)):P e:=by
 by_cases q:Nat.beq e.ctorIdx 21=true
 ·unfold V8 at h
  rw [dif_pos q] at h
  exact Expr.Subscript.elim (motive_1:=fun e=>∀ q,Expr.Subscript.elim (motive_1:=fun _=>Bool) e q f=true→P e) e (Nat.eq_of_beq_eq_true q) (fun a b c _ h=>nx a b c h) (Nat.eq_of_beq_eq_true q) h
 ·unfold V8 at h
  rw [dif_neg q] at h; exact nomatch h
noncomputable def Kn (e:Expr) (f:Str→Pos→Bool):Bool:=if q:Nat.beq e.ctorIdx 23=true then Expr.Name.elim (motive_1:=fun _=>Bool) e (Nat.eq_of_beq_eq_true q) f else false
@[elab_as_elim] theorem yb {e:Expr} {f:Str→Pos→Bool} {P:Expr→Prop} (h:Kn e f=true) (nx:∀ a b,f a b=true→P (.Name a b)):P e:=by
 by_cases q:Nat.beq e.ctorIdx 23=true
 ·unfold Kn at h
  rw [dif_pos q] at h
  exact Expr.Name.elim (motive_1:=fun e=>∀ q,Expr.Name.elim (motive_1:=fun _=>Bool) e q f=true→P e) e (Nat.eq_of_beq_eq_true q) (fun a b _ h=>nx a b h) (Nat.eq_of_beq_eq_true q) h
 ·unfold Kn at h
  rw [dif_neg q] at h; exact nomatch h
noncomputable def zdk (e:Expr) (f:List Expr→Pos→Bool):Bool:=if q:Nat.beq e.ctorIdx 24=true then Expr.List.elim (motive_1:=fun _=>Bool) e (Nat.eq_of_beq_eq_true q) f else false
@[elab_as_elim] theorem zdY {e:Expr} {f:List Expr→Pos→Bool} {P:Expr→Prop} (h:zdk e f=true) (nx:∀ a b,f a b=true→P (.List a b)):P e:=by
 by_cases q:Nat.beq e.ctorIdx 24=true
 ·unfold zdk at h
  rw [dif_pos q] at h
  exact Expr.List.elim (motive_1:=fun e=>∀ q,Expr.List.elim (motive_1:=fun _=>Bool) e q f=true→P e) e (Nat.eq_of_beq_eq_true q) (fun a b _ h=>nx a b h) (Nat.eq_of_beq_eq_true q) h
 ·unfold zdk at h
  rw [dif_neg q] at h; exact nomatch h
noncomputable def zaK (e:Expr) (f:List Expr→Nat→Pos→Bool):Bool:=if q:Nat.beq e.ctorIdx 25=true then Expr.Tuple.elim (motive_1:=fun _=>Bool) e (Nat.eq_of_beq_eq_true q) f else false
@[elab_as_elim] theorem qa {e:Expr} {f:List Expr→Nat→Pos→Bool} {P:Expr→Prop} (h:zaK e f=true) (nx:∀ a b c,f a b c=true→P (.Tuple a b c)):P e:=by
 by_cases q:Nat.beq e.ctorIdx 25=true
 ·unfold zaK at h
  rw [dif_pos q] at h
  exact Expr.Tuple.elim (motive_1:=fun e=>∀ q,Expr.Tuple.elim (motive_1:=fun _=>Bool) e q f=true→P e) e (Nat.eq_of_beq_eq_true q) (fun a b c _ h=>nx a b c h) (Nat.eq_of_beq_eq_true q) h
 ·unfold zaK at h
  rw [dif_neg q] at h; exact nomatch h
noncomputable def Zq (e:Expr) (f:Option Expr→Option Expr→Option Expr→Pos→Bool):Bool:=if q:Nat.beq e.ctorIdx 26=true then Expr.Slice.elim (motive_1:=fun _=>Bool) e (Nat.eq_of_beq_eq_true q) f else false
@[elab_as_elim] theorem KX {e:Expr} {f:Option Expr→Option Expr→Option Expr→Pos→Bool} {P:Expr→Prop} (h:Zq e f=true) (nx:∀ a b c d,f a b c d=true→P (.Slice a b c d)):P e:=by
 by_cases q:Nat.beq e.ctorIdx 26=true
 ·unfold Zq at h
  rw [dif_pos q] at h
  exact Expr.Slice.elim (motive_1:=fun e=>∀ q,Expr.Slice.elim (motive_1:=fun _=>Bool) e q f=true→P e) e (Nat.eq_of_beq_eq_true q) (fun a b c d _ h=>nx a b c d h) (Nat.eq_of_beq_eq_true q) h
 ·unfold Zq at h
  rw [dif_neg q] at h; exact nomatch h
noncomputable def zcS (e:Stmt) (f:Option Expr→Pos→Bool):Bool:=if q:Nat.beq e.ctorIdx 3=true then Stmt.Return.elim (motive_2:=fun _=>Bool) e (Nat.eq_of_beq_eq_true q) f else false
@[elab_as_elim] theorem zdA {e:Stmt} {f:Option Expr→Pos→Bool} {P:Stmt→Prop} (h:zcS e f=true) (nx:∀ a b,f a b=true→P (.Return a b)):P e:=by
 by_cases q:Nat.beq e.ctorIdx 3=true
 ·unfold zcS at h
  rw [dif_pos q] at h
  exact Stmt.Return.elim (motive_2:=fun e=>∀ q,Stmt.Return.elim (motive_2:=fun _=>Bool) e q f=true→P e) e (Nat.eq_of_beq_eq_true q) (fun a b _ h=>nx a b h) (Nat.eq_of_beq_eq_true q) h
 ·unfold zcS at h
  rw [dif_neg q] at h; exact nomatch h
noncomputable def zcR (e:Stmt) (f:List Expr→Pos→Bool):Bool:=if q:Nat.beq e.ctorIdx 4=true then Stmt.Delete.elim (motive_2:=fun _=>Bool) e (Nat.eq_of_beq_eq_true q) f else false
@[elab_as_elim] theorem zdF {e:Stmt} {f:List Expr→Pos→Bool} {P:Stmt→Prop} (h:zcR e f=true) (nx:∀ a b,f a b=true→P (.Delete a b)):P e:=by
 by_cases q:Nat.beq e.ctorIdx 4=true
 ·unfold zcR at h
  rw [dif_pos q] at h
  exact Stmt.Delete.elim (motive_2:=fun e=>∀ q,Stmt.Delete.elim (motive_2:=fun _=>Bool) e q f=true→P e) e (Nat.eq_of_beq_eq_true q) (fun a b _ h=>nx a b h) (Nat.eq_of_beq_eq_true q) h
 ·unfold zcR at h
  rw [dif_neg q] at h; exact nomatch h
noncomputable def zcu (e:Stmt) (f:List Expr→Expr→Pos→Bool):Bool:=if q:Nat.beq e.ctorIdx 5=true then Stmt.Assign.elim (motive_2:=fun _=>Bool) e (Nat.eq_of_beq_eq_true q) f else false
@[elab_as_elim] theorem zdI {e:Stmt} {f:List Expr→Expr→Pos→Bool} {P:Stmt→Prop} (h:zcu e f=true) (nx:∀ a b c,f a b c=true→P (.Assign a b c)):P e:=by
 by_cases q:Nat.beq e.ctorIdx 5=true
 ·unfold zcu at h
  rw [dif_pos q] at h
  exact Stmt.Assign.elim (motive_2:=fun e=>∀ q,Stmt.Assign.elim (motive_2:=fun _=>Bool) e q f=true→P e) e (Nat.eq_of_beq_eq_true q) (fun a b c _ h=>nx a b c h) (Nat.eq_of_beq_eq_true q) h
 ·unfold zcu at h
  rw [dif_neg q] at h; exact nomatch h
noncomputable def xR (e:Stmt) (f:Expr→Operator→Expr→Pos→Bool):Bool:=if q:Nat.beq e.ctorIdx 7=true then Stmt.AugAssign.elim (motive_2:=fun _=>Bool) e (Nat.eq_of_beq_eq_true q) f else false
@[elab_as_elim] theorem qc {e:Stmt} {f:Expr→Operator→Expr→Pos→Bool} {P:Stmt→Prop} (h:xR e f=true) (nx:∀ a b c d,f a b c d=true→P (.AugAssign a b c d)):P e:=by
 by_cases q:Nat.beq e.ctorIdx 7=true
 ·unfold xR at h
  rw [dif_pos q] at h
  exact Stmt.AugAssign.elim (motive_2:=fun e=>∀ q,Stmt.AugAssign.elim (motive_2:=fun _=>Bool) e q f=true→P e) e (Nat.eq_of_beq_eq_true q) (fun a b c d _ h=>nx a b c d h) (Nat.eq_of_beq_eq_true q) h
 ·unfold xR at h
  rw [dif_neg q] at h; exact nomatch h
noncomputable def za4 (e:Stmt) (f:Expr→Expr→List Stmt→List Stmt→Pos→Bool):Bool:=if q:Nat.beq e.ctorIdx 9=true then Stmt.For.elim (motive_2:=fun _=>Bool) e (Nat.eq_of_beq_eq_true q) f else false
@[elab_as_elim] theorem Z7 {e:Stmt} {f:Expr→Expr→List Stmt→List Stmt→Pos→Bool} {P:Stmt→Prop} (h:za4 e f=true) (nx:∀ a b c d e,f a b c d e=true→P (.For a b c d e)):P e:=by
 by_cases q:Nat.beq e.ctorIdx 9=true
 ·unfold za4 at h
  rw [dif_pos q] at h
  exact Stmt.For.elim (motive_2:=fun e=>∀ q,Stmt.For.elim (motive_2:=fun _=>Bool) e q f=true→P e) e (Nat.eq_of_beq_eq_true q) (fun a b c d e _ h=>nx a b c d e h) (Nat.eq_of_beq_eq_true q) h
 ·unfold za4 at h
  rw [dif_neg q] at h; exact nomatch h
noncomputable def zcJ (e:Stmt) (f:Expr→List Stmt→List Stmt→Pos→Bool):Bool:=if q:Nat.beq e.ctorIdx 11=true then Stmt.While.elim (motive_2:=fun _=>Bool) e (Nat.eq_of_beq_eq_true q) f else false
@[elab_as_elim] theorem zdv {e:Stmt} {f:Expr→List Stmt→List Stmt→Pos→Bool} {P:Stmt→Prop} (h:zcJ e f=true) (nx:∀ a b c d,f a b c d=true→P (.While a b c d)):P e:=by
 by_cases q:Nat.beq e.ctorIdx 11=true
 ·unfold zcJ at h
  rw [dif_pos q] at h
  exact Stmt.While.elim (motive_2:=fun e=>∀ q,Stmt.While.elim (motive_2:=fun _=>Bool) e q f=true→P e) e (Nat.eq_of_beq_eq_true q) (fun a b c d _ h=>nx a b c d h) (Nat.eq_of_beq_eq_true q) h
 ·unfold zcJ at h
  rw [dif_neg q] at h; exact nomatch h
noncomputable def zcK (e:Stmt) (f:Expr→List Stmt→List Stmt→Pos→Bool):Bool:=if q:Nat.beq e.ctorIdx 12=true then Stmt.If.elim (motive_2:=fun _=>Bool) e (Nat.eq_of_beq_eq_true q) f else false
@[elab_as_elim] theorem zds {e:Stmt} {f:Expr→List Stmt→List Stmt→Pos→Bool} {P:Stmt→Prop} (h:zcK e f=true) (nx:∀ a b c d,f a b c d=true→P (.If a b c d)):P e:=by
 by_cases q:Nat.beq e.ctorIdx 12=true
 ·unfold zcK at h
  rw [dif_pos q] at h
  exact Stmt.If.elim (motive_2:=fun e=>∀ q,Stmt.If.elim (motive_2:=fun _=>Bool) e q f=true→P e) e (Nat.eq_of_beq_eq_true q) (fun a b c d _ h=>nx a b c d h) (Nat.eq_of_beq_eq_true q) h
 ·unfold zcK at h
  rw [dif_neg q] at h; exact nomatch h
noncomputable def zc2 (e:Stmt) (f:Expr→Pos→Bool):Bool:=if q:Nat.beq e.ctorIdx 24=true then Stmt.Expr.elim (motive_2:=fun _=>Bool) e (Nat.eq_of_beq_eq_true q) f else false
@[elab_as_elim] theorem zdW {e:Stmt} {f:Expr→Pos→Bool} {P:Stmt→Prop} (h:zc2 e f=true) (nx:∀ a b,f a b=true→P (.Expr a b)):P e:=by
 by_cases q:Nat.beq e.ctorIdx 24=true
 ·unfold zc2 at h
  rw [dif_pos q] at h
  exact Stmt.Expr.elim (motive_2:=fun e=>∀ q,Stmt.Expr.elim (motive_2:=fun _=>Bool) e q f=true→P e) e (Nat.eq_of_beq_eq_true q) (fun a b _ h=>nx a b h) (Nat.eq_of_beq_eq_true q) h
 ·unfold zc2 at h
  rw [dif_neg q] at h; exact nomatch h
end Mine
end
section
namespace Mine
open PySem PySem.W PyProof.Rows PySem.Calls
open Sem (wp)
structure Nm where
 glb:Nat→Str
 fn:Nat→Option Str
 cls:Nat→Option Str
 fld:Nat→Str
noncomputable abbrev Kd:=Str→Option NameKind
noncomputable def Yy (x:Str):Bool:=!(x == ("__debug__":Str))
noncomputable def okG (kd:Kd) (x:Str):Bool:=kd x == some .globalImplicit&&Yy x
noncomputable def okL (lv:List Str) (kd:Kd) (i:Nat) (x:Str):Bool:=lv[i]? == some x&&kd x == some .local&&Yy x
noncomputable def zj (e:Expr):Bool:=!Nat.beq e.ctorIdx 22
noncomputable def WM (e:Expr):Bool:=!Nat.beq e.ctorIdx 16 || Z8 e fun f _ _ _=>Kn f fun id _=>id != "super"
noncomputable def zj4 (kd:Kd) (x:Option Str) (y:Str):Bool:=x == some y&&okG kd y
noncomputable def Kg (e:X):Option (List Nat):=if q:Nat.beq e.ctorIdx 3=true then X.str.elim (motive_1:=fun _=>Option (List Nat)) e (Nat.eq_of_beq_eq_true q) some else none
theorem Vx {x:X} {cs:List Nat} (h:Kg x=some cs):x=.str cs:=by
 by_cases q:Nat.beq x.ctorIdx 3=true
 ·delta Kg at h
  rw [dif_pos q] at h
  exact X.str.elim (motive_1:=fun e=>∀ q:e.ctorIdx=3,X.str.elim (motive_1:=fun _=>Option (List Nat)) e q some=some cs→e=.str cs) x (Nat.eq_of_beq_eq_true q) (fun j _ h=>congrArg X.str (Option.some.inj h)) (Nat.eq_of_beq_eq_true q) h
 ·delta Kg at h
  rw [dif_neg q] at h; exact nn h
noncomputable def zcP (x:X):Bool:=match Kg x with | none=>false | some cs=>yi 0 (.str cs)
noncomputable def yA:List X→List (List Nat×List Nat)
 | x::y::r=>match Kg x with
  | none=>[]
  | some a=>match Kg y with
   | none=>[]
   | some b=>(a,b)::yA r
 | _=>[]
noncomputable def zfH (es:List X):Bool:=decide (es.length=2 * (yA es).length)&&decide ((yA es).map (·.1)).Nodup&&decide (17 < (yA es).length∧(yA es).length < 34)
noncomputable def zox (c:Const):Bool:=match c with | .none=>true | _=>false
noncomputable def zpD (b:Bool) (c:Const):Bool:=match c with | .bool d=>b == d | _=>false
noncomputable def zo4 (i:Int) (c:Const):Bool:=match c with | .int j=>decide (i=j) | _=>false
noncomputable def zqQ (cs:List Nat) (c:Const):Bool:=match c with | .str x=>x == zh cs | _=>false
noncomputable def l1 (as:List Expr) (f:Expr→Bool):Bool:=match as with | [x]=>f x | _=>false
noncomputable def l2 (as:List Expr) (f:Expr→Expr→Bool):Bool:=match as with | [x,y]=>f x y | _=>false
noncomputable def zb8 (k:Nat) (b:Option Expr):Bool:=match b with | some x=>qy x fun o y _=>o == .USub&&Yj y fun c _ _=>zo4 (k:Int) c | none=>false
noncomputable def nmB (kd:Kd) (x:Option Str) (g:Expr):Bool:=Kn g fun y _=>zj4 kd x y
noncomputable def J1 (kd:Kd) (x:Option Str) (e:Expr) (f:List Expr→Bool):Bool:=Z8 e fun g as ks _=>ks.isEmpty&&nmB kd x g&&f as
noncomputable def WK (name:Str) (e:Expr) (fo:Expr→Bool) (f:List Expr→Bool):Bool:=Z8 e fun g as ks pos=>ks.isEmpty&&(YW g fun v nm apos=>nm == name&&WM v&&apos.endLine == pos.line&&fo v)&&f as
mutual
noncomputable def okE (N:Nm) (lv:List Str) (kd:Kd):X→Expr→Bool
 | .none=>fun e=>Yj e fun c _ _=>zox c
 | .bool b=>fun e=>Yj e fun c _ _=>zpD b c
 | .int i=>fun e=>Yj e fun c _ _=>zo4 i c
 | .str cs=>fun e=>Yj e fun c _ _=>zqQ cs c
 | .loc i=>fun e=>Kn e fun x _=>okL lv kd i x
 | .glb i=>fun e=>Kn e fun x _=>x == N.glb i&&okG kd x
 | .band es=>fun e=>xA e fun o vs _=>o == .And&&yY N lv kd es vs
 | .bor es=>fun e=>xA e fun o vs _=>o == .Or&&yY N lv kd es vs
 | .bin op a b=>fun e=>zcD e fun l o r _=>o == op&&okE N lv kd a l&&okE N lv kd b r
 | .neg a=>fun e=>qy e fun o x _=>o == .USub&&okE N lv kd a x
 | .bnot a=>fun e=>qy e fun o x _=>o == .Not&&okE N lv kd a x
 | .cmp a ops bs=>fun e=>zc7 e fun l os rs _=>os == ops&&decide (ops.length=bs.length)&&okE N lv kd a l&&yY N lv kd bs rs&&!lastMarks os rs
 | .call f args=>fun e=>J1 kd (N.fn f) e fun as=>as.all zj&&yY N lv kd args as
 | .new c args=>fun e=>J1 kd (N.cls c) e fun as=>as.all zj&&yY N lv kd args as
 | .meth o n args=>fun e=>WK (N.fld n) e (fun v=>okE N lv kd o v) fun as=>decide (as.length < 30)&&as.all zj&&yY N lv kd args as
 | .append o a=>fun e=>WK "append" e (fun v=>okE N lv kd o v) fun as=>l1 as fun y=>zj y&&okE N lv kd a y
 | .pop o=>fun e=>WK "pop" e (fun v=>okE N lv kd o v) fun as=>as.isEmpty
 | .get1 o a=>fun e=>WK "get" e (fun v=>okE N lv kd o v) fun as=>l1 as fun y=>zj y&&okE N lv kd a y
 | .get2 o a b=>fun e=>WK "get" e (fun v=>okE N lv kd o v) fun as=>l2 as fun y z=>zj y&&zj z&&okE N lv kd a y&&okE N lv kd b z
 | .attr o n=>fun e=>YW e fun v name _=>name == N.fld n&&WM v&&okE N lv kd o v
 | .idx o i=>fun e=>V8 e fun v sl _=>J5 sl&&okE N lv kd o v&&okE N lv kd i sl
 | .sliceAll o=>fun e=>V8 e fun v sl _=>(Zq sl fun a b c _=>a.isNone&&b.isNone&&c.isNone)&&okE N lv kd o v
 | .sliceTo o k=>fun e=>V8 e fun v sl _=>(Zq sl fun a b c _=>a.isNone&&zb8 k b&&c.isNone)&&okE N lv kd o v
 | .sliceFrom o k=>fun e=>V8 e fun v sl _=>(Zq sl fun a b c _=>zb8 k a&&b.isNone&&c.isNone)&&okE N lv kd o v
 | .tup es=>fun e=>zaK e fun as _ _=>as.all zj&&decide (as.length≤1000)&&yY N lv kd es as
 | .lst es=>fun e=>zdk e fun as _=>as.all zj&&decide (as.length≤1000)&&yY N lv kd es as
 | .dic es=>fun e=>zcX e fun ks vs _=>(decide (ks.length≤15) || zfH es)&&zaJ N lv kd es ks vs
 | .len a=>fun e=>J1 kd (some "len") e fun as=>l1 as fun y=>zj y&&okE N lv kd a y
 | .isB a=>fun e=>J1 kd (some "isinstance") e fun as=>l2 as fun y z=>nmB kd (some "bool") z&&zj y&&okE N lv kd a y
 | .range _=>fun _=>false
 | .tuple a=>fun e=>J1 kd (some "tuple") e fun as=>l1 as fun y=>zj y&&okE N lv kd a y
 | .max2 a b=>fun e=>J1 kd (some "max") e fun as=>l2 as fun y z=>zj y&&zj z&&okE N lv kd a y&&okE N lv kd b z
 | .min2 a b=>fun e=>J1 kd (some "min") e fun as=>l2 as fun y z=>zj y&&zj z&&okE N lv kd a y&&okE N lv kd b z
 | .bad=>fun _=>true
noncomputable def yY (N:Nm) (lv:List Str) (kd:Kd):List X→List Expr→Bool
 | []=>fun es=>es.isEmpty
 | x::xs=>fun es=>match es with | e::es=>okE N lv kd x e&&yY N lv kd xs es | []=>false
noncomputable def zaJ (N:Nm) (lv:List Str) (kd:Kd):List X→List (Option Expr)→List Expr→Bool
 | []=>fun ks vs=>ks.isEmpty&&vs.isEmpty
 | x::xs=>fun ks vs=>match ks with
  | some k::ks=>zcP x&&okE N lv kd x k&&zkO N lv kd xs ks vs
  | _=>false
noncomputable def zkO (N:Nm) (lv:List Str) (kd:Kd):List X→List (Option Expr)→List Expr→Bool
 | []=>fun _ _=>false
 | x::xs=>fun ks vs=>match vs with
  | v::vs=>okE N lv kd x v&&zaJ N lv kd xs ks vs
  | []=>false
end
noncomputable def Y9 (K:Frag) (C:Addr) (name:Str) (f:Addr):Bool :=
 findIn K (.ref C) "__getattribute__" == some (some (.builtin "object.__getattribute__"))&&findIn K (.ref C) "__getattr__" == some none&&findIn K (.ref C) name == some (some (.ref f)) &&
 typeIn K (.ref f) == some (.type "function")
inductive znN (c:Cx) (N:Nm) (G:Kb):Prop
 | mk (mg:Str→Option Value) (hg:c.h₀.Ns c.gl mg) (h1:∀ i v,G.glob i=some v→∃ u,mg (N.glb i)=some u∧VR c c.h₀ [] v u) (h2:∀ f x,N.fn f=some x→mg x=some (.ref (c.fn f)))
  (h3:∀ k x,N.cls k=some x→mg x=some (.ref (c.cls k))) (h4:∀ x∈(["len","isinstance","bool","tuple","max","min","range"]:List Str),mg x=none)
inductive zju (c:Cx):Prop
 | mk (mb:Str→Option Value) (hb:c.h₀.Ns c.bi mb) (h1:mb "len"=some (.builtin "len")) (h2:mb "isinstance"=some (.builtin "isinstance")) (h3:mb "bool"=some (.type "bool")) (h4:mb "tuple"=some (.type "tuple"))
  (h5:mb "max"=some (.builtin "max")) (h6:mb "min"=some (.builtin "min")) (h7:mb "range"=some (.type "range"))
structure Bk (c:Cx) (N:Nm) (G:Kb):Prop extends Bs c where
 fe:∀ n,c.fld n=N.fld n
 scr:zeJ c G.scr
 glob:znN c N G
 blt:zju c
 lim:c.h₀.NoLimit
 new:∀ k x,N.cls k=some x→Yz c.K (c.cls k) ((G.init k).map c.fn)=true
 meth:∀ k n f,G.meth k n=some f→Y9 c.K (c.cls k) (c.fld n) (c.fn f)=true
structure Kt where
 c:Cx
 N:Nm
 G:Kb
 Cf:zi
 n:Nat
 lv:List Str
 env:Env
structure Kt.Ok (k:Kt):Prop where
 base:Bk k.c k.N k.G
 call:CS k.c k.Cf k.n
 kind:k.env.scope.kind=.function
 gl:k.env.globals=k.c.gl
 bi:k.env.builtins=k.c.bi
noncomputable def SE (k:Kt) (x:X):Prop:=∀ e,okE k.N k.lv k.env.kindOf x e=true→∀ A s β H ρ p,RN k.n A→LR k.c k.lv k.env.locals s.heap β ρ→Rel k.c β H s.heap→evE k.G k.Cf x ρ H=some p →
 wpAny (model k.c.prog k.c.w) A (eval e k.env) (Res k.c s β p.2 p.1) No s
noncomputable def SEs (k:Kt) (xs:List X):Prop:=∀ es,yY k.N k.lv k.env.kindOf xs es=true→∀ A s β H ρ p,RN k.n A→LR k.c k.lv k.env.locals s.heap β ρ→Rel k.c β H s.heap→KB k.G k.Cf xs ρ H=some p →
 wpAny (model k.c.prog k.c.w) A (spliced (es.map fun e=>(false,eval e k.env))) (zeu k.c s β p.2 p.1) No s
section
variable {k:Kt} {A:Around} {s:Shared} {β:Bt} {H:AH} {ρ:Loc}
theorem SE.use {x:X} (h:SE k x) {e:Expr} {α:Type} {f:AV×AH→Option α} {r:α} {P:Value→Shared→Prop} (o:okE k.N k.lv k.env.kindOf x e=true) (hA:RN k.n A) (L:LR k.c k.lv k.env.locals s.heap β ρ) (R:Rel k.c β H s.heap)
  (ev:(evE k.G k.Cf x ρ H).bind f=some r) (nx:∀ p u s₁ β₁,Ext k.c none s s₁ β β₁ p.2→VR k.c s₁.heap β₁ p.1 u→f p=some r→P u s₁):wpAny (model k.c.prog k.c.w) A (eval e k.env) P No s :=
 ob ev fun p h1 h2=>wpAny_mono (h e o A s β H ρ p hA L R h1) (fun u s₁ z=>Res.casesOn z fun β₁ x₁ r₁=>nx p u s₁ β₁ x₁ r₁ h2) fun _ _ e=>e
theorem SE.one {x:X} (h:SE k x) {e:Expr} {p:AV×AH} {P:Value→Shared→Prop} (o:okE k.N k.lv k.env.kindOf x e=true) (hA:RN k.n A) (L:LR k.c k.lv k.env.locals s.heap β ρ) (R:Rel k.c β H s.heap)
  (ev:evE k.G k.Cf x ρ H=some p) (nx:∀ u s₁ β₁,Ext k.c none s s₁ β β₁ p.2→VR k.c s₁.heap β₁ p.1 u→P u s₁):wpAny (model k.c.prog k.c.w) A (eval e k.env) P No s :=
 wpAny_mono (h e o A s β H ρ p hA L R ev) (fun u s₁ z=>Res.casesOn z fun β₁ x₁ r₁=>nx u s₁ β₁ x₁ r₁) fun _ _ e=>e
theorem SEs.one {xs:List X} (h:SEs k xs) {es:List Expr} {p:List AV×AH} {P:List Value→Shared→Prop} (o:yY k.N k.lv k.env.kindOf xs es=true) (hA:RN k.n A) (L:LR k.c k.lv k.env.locals s.heap β ρ) (R:Rel k.c β H s.heap)
  (ev:KB k.G k.Cf xs ρ H=some p) (nx:∀ u s₁ β₁,Ext k.c none s s₁ β β₁ p.2→VRs k.c s₁.heap β₁ p.1 u→P u s₁):wpAny (model k.c.prog k.c.w) A (spliced (es.map fun e=>(false,eval e k.env))) P No s :=
 wpAny_mono (h es o A s β H ρ p hA L R ev) (fun u s₁ z=>zeu.casesOn z fun β₁ x₁ r₁=>nx u s₁ β₁ x₁ r₁) fun _ _ e=>e
end
end Mine
end
section
namespace Mine
open PySem PySem.W PyProof.Rows PySem.Calls
open Sem (wp)
theorem zgm {kd:Kd} {x:Str} (h:okG kd x=true):kd x=some .globalImplicit∧(x == ("__debug__":Str))=false:=by
 obtain ⟨a,b⟩:=tt h
 exact ⟨eq_of_beq a,by cases e:(x == ("__debug__":Str)) with | false=>rfl | true=>unfold Yy at b; rw [e] at b; exact no b⟩
theorem zbu {lv:List Str} {kd:Kd} {i:Nat} {x:Str} (h:okL lv kd i x=true):lv[i]?=some x∧kd x=some .local∧(x == ("__debug__":Str))=false:=by
 obtain ⟨h,b⟩:=tt h
 obtain ⟨a,c⟩:=tt h
 exact ⟨eq_of_beq a,eq_of_beq c,by cases e:(x == ("__debug__":Str)) with | false=>rfl | true=>unfold Yy at b; rw [e] at b; exact no b⟩
theorem xL {kd:Kd} {x:Option Str} {y:Str} (h:zj4 kd x y=true):x=some y∧okG kd y=true:=by
 obtain ⟨a,b⟩:=tt h
 exact ⟨eq_of_beq a,b⟩
theorem zfl {e:Expr} (h:zj e=true) (es:List Expr) (env:Env):starEach (e::es) env=(false,eval e env)::starEach es env:=by
 cases e <;> first | rfl | exact no h
theorem Zj (env:Env) {es:List Expr}:es.all zj=true→starEach es env=es.map fun e=>(false,eval e env):=by
 induction es with
 | nil=>exact fun _=>rfl
 | cons e es ih=>exact fun h=>(zfl (tt h).1 es env).trans (congrArg (List.cons _) (ih (tt h).2))
theorem zJ (env:Env) (pos:Pos) {es:List Expr} (h:es.all zj=true):backTo pos (starEach es env)=es.map fun e=>(false,eval e env):=by
 rw [Zj env h]
 unfold backTo
 rw [List.map_map]
 rfl
theorem yW (env:Env) (es:List Expr):((es.map fun e=>(false,eval e env)).all fun t=>!t.1)=true:=by
 rw [List.all_map]; simp
section
variable {N:Nm} {lv:List Str} {kd:Kd} {e:Expr} {P:Expr→Prop}
@[elab_as_elim] theorem zqE {op:Operator} {a b:X} (h:okE N lv kd (.bin op a b) e=true) (nx:∀ l r p,okE N lv kd a l=true→okE N lv kd b r=true→P (.BinOp l op r p)):P e :=
 qi h fun l o r p h=>by
  obtain ⟨h,h2⟩:=tt h
  cases eq_of_beq (tt h).1
  exact nx l r p (tt h).2 h2
@[elab_as_elim] theorem zqe {a:X} (h:okE N lv kd (.neg a) e=true) (nx:∀ x p,okE N lv kd a x=true→P (.UnaryOp .USub x p)):P e :=
 W6 h fun o x p h=>by cases eq_of_beq (tt h).1; exact nx x p (tt h).2
@[elab_as_elim] theorem zpW {a:X} (h:okE N lv kd (.bnot a) e=true) (nx:∀ x p,okE N lv kd a x=true→P (.UnaryOp .Not x p)):P e :=
 W6 h fun o x p h=>by cases eq_of_beq (tt h).1; exact nx x p (tt h).2
@[elab_as_elim] theorem zpV {xs:List X} (h:okE N lv kd (.band xs) e=true) (nx:∀ vs p,yY N lv kd xs vs=true→P (.BoolOp .And vs p)):P e :=
 qm h fun o x p h=>by cases eq_of_beq (tt h).1; exact nx x p (tt h).2
@[elab_as_elim] theorem iOr {xs:List X} (h:okE N lv kd (.bor xs) e=true) (nx:∀ vs p,yY N lv kd xs vs=true→P (.BoolOp .Or vs p)):P e :=
 qm h fun o x p h=>by cases eq_of_beq (tt h).1; exact nx x p (tt h).2
@[elab_as_elim] theorem zaZ {P:List Expr→Prop} {es:List Expr} (h:es.isEmpty=true) (nx:P []):P es:=by
 induction es using List.casesOn with
 | nil=>exact nx
 | cons=>exact no h
@[elab_as_elim] theorem V6 {P:List Expr→Prop} {x:X} {xs:List X} {es:List Expr} (h:yY N lv kd (x::xs) es=true) (nx:∀ e fs,okE N lv kd x e=true→yY N lv kd xs fs=true→P (e::fs)):P es:=by
 induction es using List.casesOn with
 | nil=>exact no h
 | cons e fs=>exact nx e fs (tt h).1 (tt h).2
@[elab_as_elim] theorem Vy {P:List Expr→Prop} {as:List Expr} {f:Expr→Bool} (h:l1 as f=true) (nx:∀ x,f x=true→P [x]):P as:=by
 match as,h with
 | [x],h=>exact nx x h
 | [],h=>exact no h
 | _::_::_,h=>exact no h
@[elab_as_elim] theorem q6 {P:List Expr→Prop} {as:List Expr} {f:Expr→Expr→Bool} (h:l2 as f=true) (nx:∀ x y,f x y=true→P [x,y]):P as:=by
 match as,h with
 | [x,y],h=>exact nx x y h
 | [],h=>exact no h
 | [_],h=>exact no h
 | _::_::_::_,h=>exact no h
@[elab_as_elim] theorem zdh {x:Option Str} (h:nmB kd x e=true) (nx:∀ y p,x=some y→okG kd y=true→P (.Name y p)):P e :=
 yb h fun y p h=>nx y p (xL h).1 (xL h).2
theorem zhc {ks:List Keyword} (h:ks.isEmpty=true):ks=[]:=by
 induction ks using List.casesOn with
 | nil=>rfl
 | cons=>exact no h
@[elab_as_elim] theorem zO {x:Option Str} {f:List Expr→Bool} (h:J1 kd x e f=true) (nx:∀ y p as pos,x=some y→okG kd y=true→f as=true→P (.Call (.Name y p) as [] pos)):P e :=
 WH h fun g as ks pos h=>by
  obtain ⟨h,h3⟩:=tt h
  cases zhc (tt h).1
  exact zdh (P:=fun g=>P (.Call g as [] pos)) (tt h).2 fun y p a b=>nx y p as pos a b h3
@[elab_as_elim] theorem JE {name:Str} {fo:Expr→Bool} {f:List Expr→Bool} (h:WK name e fo f=true) (nx:∀ v p as pos,WM v=true→(p.endLine == pos.line)=true→fo v=true→f as=true→P (.Call (.Attribute v name p) as [] pos)):P e :=
 WH h fun g as ks pos h=>by
  obtain ⟨h,h3⟩:=tt h
  cases zhc (tt h).1
  refine KU (P:=fun g=>P (.Call g as [] pos)) (tt h).2 fun v nm p h=>?_
  obtain ⟨h,h4⟩:=tt h
  obtain ⟨h,h5⟩:=tt h
  cases eq_of_beq (tt h).1
  exact nx v p as pos (tt h).2 h5 h4 h3
end
section
variable {k:Kt} {A:Around} {s:Shared} {β:Bt} {H H' H₁:AH} {ρ:Loc}
theorem ziS:SE k .none:=fun e ok A s β H ρ p hA L R ev=>by
 refine Jj ok fun c _ _ h=>?_
 cases c with
 | none=>exact oe (P:=fun p=>wpAny _ A _ (Res k.c s β p.2 p.1) No s) ev (wpAny_pure ⟨β,.refl R,.none⟩)
 | _=>exact no h
theorem zhF (b:Bool):SE k (.bool b):=fun e ok A s β H ρ p hA L R ev=>by
 refine Jj ok fun c _ _ h=>?_
 cases c with
 | bool d =>
  cases (eq_of_beq h:b=d)
  exact oe (P:=fun p=>wpAny _ A _ (Res k.c s β p.2 p.1) No s) ev (wpAny_pure ⟨β,.refl R,.bool _⟩)
 | _=>exact no h
theorem zl8 (i:Int):SE k (.int i):=fun e ok A s β H ρ p hA L R ev=>by
 refine Jj ok fun c _ _ h=>?_
 cases c with
 | int d =>
  cases (of_decide_eq_true h:i=d)
  exact oe (P:=fun p=>wpAny _ A _ (Res k.c s β p.2 p.1) No s) ev (wpAny_Constant_int ⟨β,.tok R,.int _ _⟩)
 | _=>exact no h
theorem zmz (cs:List Nat):SE k (.str cs):=fun e ok A s β H ρ p hA L R ev=>by
 refine Jj ok fun c _ _ h=>?_
 cases c with
 | str d =>
  cases (eq_of_beq h:d=zh cs)
  exact oe (P:=fun p=>wpAny _ A _ (Res k.c s β p.2 p.1) No s) ev (Constant_str ⟨β,.tok R,.str _ _⟩)
 | _=>exact no h
theorem zke (K:k.Ok) (i:Nat):SE k (.loc i):=fun e ok A s β H ρ p hA L R ev=>by
 refine yb ok fun x _ o=>?_
 obtain ⟨o1,o2,o3⟩:=zbu o
 obtain ⟨m,hn,hm⟩:=L.ns
 refine om (P:=fun p=>wpAny _ A _ (Res k.c s β p.2 p.1) No s) ev fun w hw=>?_
 obtain ⟨y,u,h1,h2,h3⟩:=hm i w hw
 cases o1.symm.trans h1
 exact wpAny_Name (wpAny_loadName_local K.kind o2 hn h2 ⟨β,.refl R,h3⟩) o3
theorem Vc (K:k.Ok) {R:Rel k.c β H s.heap} {x:Str} {p:Pos} {Q:Value→Shared→Prop} {E:Value→Shared→Prop} (o:okG k.env.kindOf x=true) {mg:Str→Option Value} (hg:k.c.h₀.Ns k.c.gl mg) {u:Value} (hu:mg x=some u) (q:Q u s) :
  wpAny (model k.c.prog k.c.w) A (eval (.Name x p) k.env) Q E s:=by
 obtain ⟨o1,o2⟩:=zgm o
 exact Name_function_global K.kind o1 (loadGlobal_global (mg:=mg) (K.gl ▸ R.ns hg) hu q) o2
theorem Jv (K:k.Ok) {R:Rel k.c β H s.heap} {x:Str} {p:Pos} {Q:Value→Shared→Prop} {E:Value→Shared→Prop} (o:okG k.env.kindOf x=true) {mb:Str→Option Value} (hb:k.c.h₀.Ns k.c.bi mb) {u:Value} (hu:mb x=some u)
  (hx:x∈(["len","isinstance","bool","tuple","max","min","range"]:List Str)) (q:Q u s) :
  wpAny (model k.c.prog k.c.w) A (eval (.Name x p) k.env) Q E s:=by
 obtain ⟨o1,o2⟩:=zgm o
 cases K.base.glob with
 | mk mg hg _ _ _ hmiss=>exact Name_function_global K.kind o1 (loadGlobal_builtin (mg:=mg) (mb:=mb) (K.gl ▸ R.ns hg) (hmiss x hx) (K.bi ▸ R.ns hb) hu q) o2
theorem zlU (K:k.Ok) (i:Nat):SE k (.glb i):=fun e ok A s β H ρ p hA L R ev=>by
 refine yb ok fun x _ o=>?_
 cases eq_of_beq (tt o).1
 have o:=(tt o).2
 obtain ⟨mg,hg,h1,_⟩:=K.base.glob
 refine om (P:=fun p=>wpAny _ A _ (Res k.c s β p.2 p.1) No s) ev fun w hw=>?_
 obtain ⟨u,h2,h3⟩:=h1 i w hw
 exact Vc K (R:=R) o hg h2 ⟨β,.refl R,h3.mono (.of_keep R.base) (.nil _)⟩
theorem zjd:SEs k []:=fun es ok A s β H ρ p hA L R ev=>by
 refine zaZ ok ?_
 exact oe (P:=fun p=>wpAny _ A _ (zeu k.c s β p.2 p.1) No s) ev (spliced_nil ⟨β,.refl R,.nil⟩)
theorem zgL {x:X} {xs:List X} (hx:SE k x) (hxs:SEs k xs):SEs k (x::xs):=fun es ok A s β H ρ p hA L R ev=>by
 refine V6 ok fun e es o1 o2=>?_
 exact spliced_cons (hx.use o1 hA L R ev fun q u s₁ β₁ x₁ r₁ ev=>om (P:=fun p=>wpAny _ A _ (fun us s₂=>zeu k.c s β p.2 p.1 (u::us) s₂) No s₁) ev fun t h=>hxs.one o2 hA (L.ext x₁) x₁.rel h fun us s₂ β₂ x₂ r₂=>⟨β₂,x₁.trans x₂,.cons (x₂.vr r₁) r₂⟩)
theorem zkG {op:Operator} {a b:X} (ha:SE k a) (hb:SE k b):SE k (.bin op a b):=fun e ok A s β H ρ p hA L R ev=>by
 refine zqE ok fun l r _ o1 o2=>?_
 exact wpAny_BinOp (ha.use o1 hA L R ev fun q u s₁ β₁ x₁ r₁ ev=>hb.use o2 hA (L.ext x₁) x₁.rel ev fun t w s₂ β₂ x₂ r₂ ev=>yK (x₁.trans x₂) (zdU x₂.rel (x₂.vr r₁) r₂ ev))
theorem Vb {v:AV} {u:Value} {b:Bool} {h:Heap} {Q:Bool→Shared→Prop} {E:Value→Shared→Prop} (r:VR k.c h β v u) (e:truth v=some b) (q:Q b s):wpAny (model k.c.prog k.c.w) A (truthy u) Q E s:=by
 cases r with
 | bool=>cases e; exact wpAny_truthy_bool q
 | int i t =>
  cases e
  refine P.truthy_int ?_
  have:(i != 0)=decide (i≠0):=by by_cases h:i=0 <;> simp [h]
  rw [this]; exact q
 | _=>exact nn e
theorem znb {a:X} (ha:SE k a):SE k (.neg a):=fun e ok A s β H ρ p hA L R ev=>by
 refine zqe ok fun x _ o=>?_
 refine UnaryOp_ (ha.use o hA L R ev fun q u s₁ β₁ x₁ r₁ ev=>zjp ev fun i hi ev=>?_)
 rw [hi] at r₁
 cases r₁
 exact oe (P:=fun p=>wpAny _ A _ (Res k.c s β p.2 p.1) No s₁) ev (PyProof.Rows.neg_int ⟨β₁,x₁.trans (.tok x₁.rel),.int _ _⟩)
theorem zi8 {a:X} (ha:SE k a):SE k (.bnot a):=fun e ok A s β H ρ p hA L R ev=>by
 refine zpW ok fun x _ o=>?_
 exact UnaryOp_ (ha.use o hA L R ev fun q u s₁ β₁ x₁ r₁ ev=>om (P:=fun p=>wpAny _ A _ (Res k.c s β p.2 p.1) No s₁) ev fun b hb=>not_of (Vb r₁ hb ⟨β₁,x₁,.bool _⟩))
noncomputable def zgU (k:Kt) (xs:List X):Prop:=∀ es pos,yY k.N k.lv k.env.kindOf xs es=true→∀ A s β H ρ p,RN k.n A→LR k.c k.lv k.env.locals s.heap β ρ→Rel k.c β H s.heap→zfx k.G k.Cf xs ρ H=some p →
 wpAny (model k.c.prog k.c.w) A (eval (.BoolOp .And es pos) k.env) (Res k.c s β p.2 p.1) No s
noncomputable def SOr (k:Kt) (xs:List X):Prop:=∀ es pos,yY k.N k.lv k.env.kindOf xs es=true→∀ A s β H ρ p,RN k.n A→LR k.c k.lv k.env.locals s.heap β ρ→Rel k.c β H s.heap→zlL k.G k.Cf xs ρ H=some p →
 wpAny (model k.c.prog k.c.w) A (eval (.BoolOp .Or es pos) k.env) (Res k.c s β p.2 p.1) No s
theorem ziT {xs:List X} (h:zgU k xs):SE k (.band xs):=fun e ok A s β H ρ p hA L R ev=>by
 exact zpV ok fun es pos o=>h es pos o A s β H ρ p hA L R ev
theorem zl0 {xs:List X} (h:SOr k xs):SE k (.bor xs):=fun e ok A s β H ρ p hA L R ev=>by
 exact iOr ok fun es pos o=>h es pos o A s β H ρ p hA L R ev
theorem YQ {op:BoolOp} {e:Expr} {pos:Pos} {env:Env}:eval (.BoolOp op [e] pos) env=eval e env:=by
 cases op <;> rfl
theorem zfn:zgU k []:=fun es pos ok A s β H ρ p hA L R ev=>nn ev
theorem zhH:SOr k []:=fun es pos ok A s β H ρ p hA L R ev=>nn ev
theorem zem {x:X} {xs:List X} (hx:SE k x) (h:zgU k xs):zgU k (x::xs):=fun es pos ok A s β H ρ p hA L R ev=>by
 refine V6 ok fun e es o1 o2=>?_
 induction xs using List.casesOn with
 | nil =>
  refine zaZ (P:=fun es=>wpAny _ A (eval (.BoolOp _ (e::es) pos) k.env) _ _ s) o2 ?_
  rw [YQ]
  exact hx.use o1 hA L R ev fun q u s₁ β₁ x₁ r₁ ev=>oe (P:=fun p=>Res k.c s β p.2 p.1 u s₁) ev ⟨β₁,x₁,r₁⟩
 | cons x' xs =>
  revert o2
  refine fun o2=>V6 (P:=fun es=>yY k.N k.lv k.env.kindOf (x'::xs) es=true→wpAny _ A (eval (.BoolOp _ (e::es) pos) k.env) _ _ s) o2 (fun e' es' _ _ o2=>?_) o2
  refine BoolOp_and (hx.use o1 hA L R ev fun q u s₁ β₁ x₁ r₁ ev=>ob ev fun b hb ev=>Vb r₁ hb ?_)
  induction b using Bool.casesOn with
  | true=>exact yK x₁ (h _ pos o2 A s₁ β₁ _ ρ p hA (L.ext x₁) x₁.rel ev)
  | false=>exact oe (P:=fun p=>Res k.c s β p.2 p.1 u s₁) ev ⟨β₁,x₁,r₁⟩
theorem zgl {x:X} {xs:List X} (hx:SE k x) (h:SOr k xs):SOr k (x::xs):=fun es pos ok A s β H ρ p hA L R ev=>by
 refine V6 ok fun e es o1 o2=>?_
 induction xs using List.casesOn with
 | nil =>
  refine zaZ (P:=fun es=>wpAny _ A (eval (.BoolOp _ (e::es) pos) k.env) _ _ s) o2 ?_
  rw [YQ]
  exact hx.use o1 hA L R ev fun q u s₁ β₁ x₁ r₁ ev=>oe (P:=fun p=>Res k.c s β p.2 p.1 u s₁) ev ⟨β₁,x₁,r₁⟩
 | cons x' xs =>
  revert o2
  refine fun o2=>V6 (P:=fun es=>yY k.N k.lv k.env.kindOf (x'::xs) es=true→wpAny _ A (eval (.BoolOp _ (e::es) pos) k.env) _ _ s) o2 (fun e' es' _ _ o2=>?_) o2
  refine BoolOp_or (hx.use o1 hA L R ev fun q u s₁ β₁ x₁ r₁ ev=>ob ev fun b hb ev=>Vb r₁ hb ?_)
  induction b using Bool.casesOn with
  | false=>exact yK x₁ (h _ pos o2 A s₁ β₁ _ ρ p hA (L.ext x₁) x₁.rel ev)
  | true=>exact oe (P:=fun p=>Res k.c s β p.2 p.1 u s₁) ev ⟨β₁,x₁,r₁⟩
end
end Mine
end
section
namespace Mine
open PySem PySem.W PyProof.Rows PySem.Calls
open Sem (wp)
section
variable {k:Kt} {A:Around} {s:Shared} {β:Bt} {H H' H₁:AH} {ρ:Loc}
noncomputable def Ks (c:Cx) (s:Shared) (β:Bt) (H':AH) (b:Bool):Bool→Shared→Prop:=fun r s'=>r=b∧∃ β',Ext c none s s' β β' H'
noncomputable def W2 (k:Kt) (bs:List X):Prop:=∀ ops rs pos,ops.length=bs.length→yY k.N k.lv k.env.kindOf bs rs=true→∀ A s β H ρ a u p,RN k.n A→LR k.c k.lv k.env.locals s.heap β ρ→Rel k.c β H s.heap→VR k.c s.heap β a u →
 YB k.G k.Cf a ops bs ρ H=some p→wpAny (model k.c.prog k.c.w) A (compareChain pos u ops (evalEach rs k.env)) (Res k.c s β p.2 (.bool p.1)) No s ∧
  wpAny (model k.c.prog k.c.w) A (testChain pos u ops (evalEach rs k.env)) (Ks k.c s β p.2 p.1) No s
theorem zdM {b:Bool} {s₁:Shared} {u:Value} {Q:Bool→Shared→Prop} {E:Value→Shared→Prop} (r:Res k.c s β H' (.bool b) u s₁) (q:(∃ β',Ext k.c none s s₁ β β' H')→Q b s₁):wpAny (model k.c.prog k.c.w) A (truthy u) Q E s₁:=by
 obtain ⟨β',x,r⟩:=r
 cases r
 exact wpAny_truthy_bool (q ⟨β',x⟩)
theorem Ks.after {b:Bool} {s₁:Shared} {β₁:Bt} {r:Bool} {s':Shared} (x:Ext k.c none s s₁ β β₁ H₁) (q:Ks k.c s₁ β₁ H' b r s'):Ks k.c s β H' b r s' :=
 by obtain ⟨e,β',y⟩:=q; exact ⟨e,β',x.trans y⟩
theorem qI {b:Bool} {s₁:Shared} {β₁:Bt} {t:Sem Bool} {M:Model} (x:Ext k.c none s s₁ β β₁ H₁) (h:wpAny M A t (Ks k.c s₁ β₁ H' b) No s₁):wpAny M A t (Ks k.c s β H' b) No s₁ :=
 wpAny_mono h (fun _ _ r=>r.after x) fun _ _ e=>e
theorem zer {M:Model} {E:Value→Shared→Prop} {pos:Pos} {a:Value} {op:CmpOp} {r:Sem Value} {Q:Bool→Shared→Prop}
  (h:wpAny M A r (fun b s₁=>wpAny M A (compareOp op a b) (fun c s₂=>wpAny M A (truthy c) Q E s₂) E s₁) E s):wpAny M A (testChain pos a [op] [r]) Q E s :=
 wpAny_bind (wpAny_holding (wpAny_mono h (fun _ _ h₁=>wpAny_bind (wpAny_standAt (wpAny_bind (wpAny_operate' (wpAny_mono h₁ (fun _ _ h₂=>wpAny_holding h₂) fun _ _ x=>x))))) fun _ _ x=>x))
theorem zb9:W2 k []:=fun ops _ _ hl _ _ _ _ _ _ _ _ _ _ _ _ _ ev=>by
 induction ops using List.casesOn with
 | nil=>exact nn ev
 | cons=>exact nomatch hl
theorem ZI (K:k.Ok) {x:X} (hx:SE k x) {e:Expr} {a:AV} {u:Value} {op:CmpOp} {α:Type} {f:AV×AH→Option α} {p:α} {Q:Value→Value→Shared→Prop} (o:okE k.N k.lv k.env.kindOf x e=true) (hA:RN k.n A) (L:LR k.c k.lv k.env.locals s.heap β ρ) (R:Rel k.c β H s.heap) (ra:VR k.c s.heap β a u)
  (ev:(evE k.G k.Cf x ρ H).bind f=some p) (fo:∀ q,f q=some p→∃ b,qr op a q.1 q.2=some b∧∀ w s₁ β₁,VR k.c s₁.heap β₁ q.1 w→Ext k.c none s s₁ β β₁ q.2→∀ z s₂,Res k.c s₁ β₁ q.2 (.bool b) z s₂→Q w z s₂) :
  wpAny (model k.c.prog k.c.w) A (eval e k.env) (fun w s₁=>wpAny (model k.c.prog k.c.w) A (compareOp op u w) (Q w) No s₁) No s :=
 hx.use o hA L R ev fun q w s₁ β₁ x₁ r₁ ev=>by obtain ⟨_,hb,go⟩:=fo q ev; exact wpAny_mono (zja K.base.toBs hA.tk x₁.rel (x₁.vr ra) r₁ hb) (fun z s₂ r=>go w s₁ β₁ r₁ x₁ z s₂ r) fun _ _ e=>e
theorem za3 (K:k.Ok) {x:X} {xs:List X} (hx:SE k x) (h:W2 k xs):W2 k (x::xs):=fun ops rs pos hl ok A s β H ρ a u p hA L R ra ev=>by
 revert hl
 refine V6 ok fun e es o1 o2 hl=>?_
 induction ops using List.casesOn with
 | nil=>exact nomatch hl
 | cons op ops =>
  have hl':ops.length=xs.length:=Nat.succ.inj hl
  induction xs using List.casesOn with
  | nil =>
   induction ops using List.casesOn with
   | cons=>exact nomatch hl'
   | nil =>
    refine zaZ (P:=fun es=>wpAny _ A (compareChain pos u [op] (evalEach (e::es) k.env)) _ _ s∧wpAny _ A (testChain pos u [op] (evalEach (e::es) k.env)) _ _ s) o2 ?_
    have go:∀ {Q:Value→Shared→Prop},(∀ w s',Res k.c s β p.2 (.bool p.1) w s'→Q w s')→wpAny (model k.c.prog k.c.w) A (eval e k.env) (fun w s₁=>wpAny (model k.c.prog k.c.w) A (compareOp op u w) Q No s₁) No s:=fun {Q} q =>
     ZI (Q:=fun _=>Q) K hx o1 hA L R ra ev fun t e=>by
      revert q
      exact om (P:=fun p=>(∀ w s',Res k.c s β p.2 (.bool p.1) w s'→Q w s')→∃ b,qr op a t.1 t.2=some b∧∀ (w:Value) s₁ β₁,VR k.c s₁.heap β₁ t.1 w→Ext k.c none s s₁ β β₁ t.2→∀ z s₂,Res k.c s₁ β₁ t.2 (.bool b) z s₂→Q z s₂) e fun b hb q=>⟨b,hb,fun _ _ _ _ x₁ z s₂ r=>q z s₂ (Res.after x₁ r)⟩
    exact ⟨chain_last (go fun _ _ r=>r),zer (go fun w s' r=>zdM r fun x=>⟨rfl,x⟩)⟩
  | cons x' xs =>
   induction ops using List.casesOn with
   | nil=>exact nomatch hl'
   | cons op' ops =>
    refine V6 (P:=fun es=>yY k.N k.lv k.env.kindOf (x'::xs) es=true→wpAny _ A (compareChain pos u (op::op'::ops) (evalEach (e::es) k.env)) _ _ s∧wpAny _ A (testChain pos u (op::op'::ops) (evalEach (e::es) k.env)) _ _ s) o2 (fun e' es _ _ o2=>?_) o2
    constructor
    ·refine chain_link (ZI K hx o1 hA L R ra ev fun t ev=>ob ev fun b hb ev=>⟨b,hb,fun w s₁ β₁ r₁ x₁ z s₂ r=>?_⟩)
     obtain ⟨β₂,x₂,rz⟩:=r
     cases rz
     refine wpAny_truthy_bool ?_
     induction b using Bool.casesOn with
     | true=>exact yK (x₁.trans x₂) (h (op'::ops) (e'::es) pos hl' o2 A s₂ β₂ _ ρ _ w p hA ((L.ext x₁).ext x₂) x₂.rel (x₂.vr r₁) ev).1
     | false=>exact oe (P:=fun p=>Res k.c s β p.2 (.bool p.1) (.bool false) s₂) ev ⟨β₂,x₁.trans x₂,.bool _⟩
    ·refine test_link (ZI K hx o1 hA L R ra ev fun t ev=>ob ev fun b hb ev=>⟨b,hb,fun w s₁ β₁ r₁ x₁ z s₂ r=>?_⟩)
     obtain ⟨β₂,x₂,rz⟩:=r
     cases rz
     refine wpAny_truthy_bool ?_
     induction b using Bool.casesOn with
     | true=>exact qI (x₁.trans x₂) (h (op'::ops) (e'::es) pos hl' o2 A s₂ β₂ _ ρ _ w p hA ((L.ext x₁).ext x₂) x₂.rel (x₂.vr r₁) ev).2
     | false=>exact oe (P:=fun p=>Ks k.c s β p.2 p.1 false s₂) ev ⟨rfl,β₂,x₁.trans x₂⟩
theorem zpU {N:Nm} {lv:List Str} {kd:Kd} {e:Expr} {P:Expr→Prop} {a:X} {ops:List CmpOp} {bs:List X} (h:okE N lv kd (.cmp a ops bs) e=true)
  (nx:∀ l rs p,ops.length=bs.length→okE N lv kd a l=true→yY N lv kd bs rs=true→lastMarks ops rs=false→P (.Compare l ops rs p)):P e :=
 zdx h fun l ox rs p h=>by
  obtain ⟨h,h5⟩:=tt h
  obtain ⟨h,h4⟩:=tt h
  obtain ⟨h,h3⟩:=tt h
  cases eq_of_beq (tt h).1
  exact nx l rs p (of_decide_eq_true (tt h).2) h3 h4 (by cases q:lastMarks ops rs with | false=>rfl | true=>rw [q] at h5; exact no h5)
theorem zkq {a:X} {ops:List CmpOp} {bs:List X} (ha:SE k a) (hb:W2 k bs):SE k (.cmp a ops bs):=fun e ok A s β H ρ p hA L R ev=>by
 refine zpU (P:=fun e=>wpAny _ A (eval e k.env) _ _ s) ok fun l rs pos o1 o2 o3 o4=>?_
 rw [arm_eval_Compare,markedEach_of_false _ _ _ o4]
 exact wpAny_bind (ha.use o2 hA L R ev fun q u s₁ β₁ x₁ r₁ ev=>om (P:=fun p=>wpAny _ A _ (Res k.c s β p.2 p.1) No s₁) ev fun t h=>yK x₁ (hb _ _ _ o1 o3 A s₁ β₁ _ ρ _ u t hA (L.ext x₁) x₁.rel r₁ h).1)
noncomputable def ST (k:Kt) (x:X):Prop:=∀ e,okE k.N k.lv k.env.kindOf x e=true→∀ A s β H ρ p,RN k.n A→LR k.c k.lv k.env.locals s.heap β ρ→Rel k.c β H s.heap→tst k.G k.Cf x ρ H=some p →
 wpAny (model k.c.prog k.c.w) A (isTrue e k.env (eval e k.env)) (Ks k.c s β p.2 p.1) No s
noncomputable def zal (k:Kt) (xs:List X):Prop:=∀ es pos whole,yY k.N k.lv k.env.kindOf xs es=true→∀ A s β H ρ p,RN k.n A→LR k.c k.lv k.env.locals s.heap β ρ→Rel k.c β H s.heap→zbK k.G k.Cf xs ρ H=some p →
 wpAny (model k.c.prog k.c.w) A (isTrue (.BoolOp .And es pos) k.env whole) (Ks k.c s β p.2 p.1) No s
noncomputable def zaQ (k:Kt) (xs:List X):Prop:=∀ es pos whole,yY k.N k.lv k.env.kindOf xs es=true→∀ A s β H ρ p,RN k.n A→LR k.c k.lv k.env.locals s.heap β ρ→Rel k.c β H s.heap→zci k.G k.Cf xs ρ H=some p →
 wpAny (model k.c.prog k.c.w) A (isTrue (.BoolOp .Or es pos) k.env whole) (Ks k.c s β p.2 p.1) No s
theorem ST.use {x:X} (h:ST k x) {e:Expr} {α:Type} {f:Bool×AH→Option α} {r:α} {P:Bool→Shared→Prop} (o:okE k.N k.lv k.env.kindOf x e=true) (hA:RN k.n A) (L:LR k.c k.lv k.env.locals s.heap β ρ) (R:Rel k.c β H s.heap)
  (ev:(tst k.G k.Cf x ρ H).bind f=some r) (nx:∀ b H₁ s₁ β₁,Ext k.c none s s₁ β β₁ H₁→f (b,H₁)=some r→P b s₁):wpAny (model k.c.prog k.c.w) A (isTrue e k.env (eval e k.env)) P No s :=
 ob ev fun p h1 h2=>wpAny_mono (h e o A s β H ρ p hA L R h1) (fun _ s₁ z1c=>by obtain ⟨e,β₁,x₁⟩:=z1c; exact e ▸ nx p.1 p.2 s₁ β₁ x₁ h2) fun _ _ e=>e
theorem zh4 {x:X} (h:ST k x):ST k (.bnot x):=fun e ok A s β H ρ p hA L R ev=>by
 refine zpW (P:=fun e=>wpAny _ A (isTrue e k.env (eval e k.env)) _ _ s) ok fun y _ o=>?_
 refine om (P:=fun p=>wpAny _ A _ (Ks k.c s β p.2 p.1) No s) ev fun q h1=>?_
 exact isTrue_not (wpAny_mono (h y o A s β H ρ q hA L R h1) (fun r s₁ z2c=>by obtain ⟨e,z⟩:=z2c; exact ⟨congrArg not e,z⟩) fun _ _ e=>e)
theorem zhG {xs:List X} (h:zal k xs):ST k (.band xs):=fun e ok A s β H ρ p hA L R ev =>
 zpV (P:=fun e=>wpAny _ A (isTrue e k.env (eval e k.env)) _ _ s) ok fun es pos o=>h es pos _ o A s β H ρ p hA L R ev
theorem zm6 {xs:List X} (h:zaQ k xs):ST k (.bor xs):=fun e ok A s β H ρ p hA L R ev =>
 iOr (P:=fun e=>wpAny _ A (isTrue e k.env (eval e k.env)) _ _ s) ok fun es pos o=>h es pos _ o A s β H ρ p hA L R ev
theorem zl3 {a:X} {ops:List CmpOp} {bs:List X} (ha:SE k a) (hb:W2 k bs):ST k (.cmp a ops bs):=fun e ok A s β H ρ p hA L R ev=>by
 refine zpU (P:=fun e=>wpAny _ A (isTrue e k.env (eval e k.env)) _ _ s) ok fun l rs pos o1 o2 o3 o4=>?_
 show wpAny _ A (do testChain pos (← eval l k.env) ops (markedEach ops rs (evalEach rs k.env))) _ _ s
 rw [markedEach_of_false _ _ _ o4]
 exact wpAny_bind (ha.use o2 hA L R ev fun q u s₁ β₁ x₁ r₁ ev=>qI x₁ (hb _ _ _ o1 o3 A s₁ β₁ _ ρ _ u p hA (L.ext x₁) x₁.rel r₁ ev).2)
theorem zjn:zal k []:=fun es pos whole ok A s β H ρ p hA L R ev =>
 zaZ (P:=fun es=>wpAny _ A (isTrue (.BoolOp .And es pos) k.env whole) _ _ s) ok (oe (P:=fun p=>wpAny _ A _ (Ks k.c s β p.2 p.1) No s) ev (isTrue_and_nil ⟨rfl,β,.refl R⟩))
theorem zi1:zaQ k []:=fun es pos whole ok A s β H ρ p hA L R ev =>
 zaZ (P:=fun es=>wpAny _ A (isTrue (.BoolOp .Or es pos) k.env whole) _ _ s) ok (oe (P:=fun p=>wpAny _ A _ (Ks k.c s β p.2 p.1) No s) ev (isTrue_or_nil ⟨rfl,β,.refl R⟩))
theorem zgI {x:X} {xs:List X} (hx:ST k x) (h:zal k xs):zal k (x::xs):=fun es pos whole ok A s β H ρ p hA L R ev=>by
 refine V6 (P:=fun es=>wpAny _ A (isTrue (.BoolOp .And es pos) k.env whole) _ _ s) ok fun e es o1 o2=>?_
 refine isTrue_and (hx.use o1 hA L R ev fun b H₁ s₁ β₁ x₁ ev=>?_)
 induction b using Bool.casesOn with
 | true=>exact qI x₁ (h es pos whole o2 A s₁ β₁ H₁ ρ p hA (L.ext x₁) x₁.rel ev)
 | false=>exact oe (P:=fun p=>Ks k.c s β p.2 p.1 false s₁) ev ⟨rfl,β₁,x₁⟩
theorem zgN {x:X} {xs:List X} (hx:ST k x) (h:zaQ k xs):zaQ k (x::xs):=fun es pos whole ok A s β H ρ p hA L R ev=>by
 refine V6 (P:=fun es=>wpAny _ A (isTrue (.BoolOp .Or es pos) k.env whole) _ _ s) ok fun e es o1 o2=>?_
 refine isTrue_or (hx.use o1 hA L R ev fun b H₁ s₁ β₁ x₁ ev=>?_)
 induction b using Bool.casesOn with
 | false=>exact qI x₁ (h es pos whole o2 A s₁ β₁ H₁ ρ p hA (L.ext x₁) x₁.rel ev)
 | true=>exact oe (P:=fun p=>Ks k.c s β p.2 p.1 true s₁) ev ⟨rfl,β₁,x₁⟩
theorem j4 {x:X} (hx:SE k x) {e:Expr} {p:Bool×AH} (o:okE k.N k.lv k.env.kindOf x e=true) (he:isTrue e k.env (eval e k.env)=(do let v ← eval e k.env; standAt e.pos; holding [v] (truthy v))) (hA:RN k.n A) (L:LR k.c k.lv k.env.locals s.heap β ρ) (R:Rel k.c β H s.heap)
  (ev:((evE k.G k.Cf x ρ H).bind fun p=>(truth p.1).map fun b=>(b,p.2))=some p):wpAny (model k.c.prog k.c.w) A (isTrue e k.env (eval e k.env)) (Ks k.c s β p.2 p.1) No s :=
 isTrue_plain (hx.use o hA L R ev fun q u s₁ β₁ x₁ r₁ ev=>om (P:=fun p=>wpAny _ A (truthy u) (Ks k.c s β p.2 p.1) No s₁) ev fun b hb=>Vb r₁ hb ⟨rfl,β₁,x₁⟩) he
theorem ziy {f:Nat} {as:List X} (hx:SE k (.call f as)):ST k (.call f as):=fun e ok A s β H ρ p hA L R ev=>by
 revert ok
 exact fun ok=>zO (P:=fun e=>okE k.N k.lv k.env.kindOf (.call f as) e=true→wpAny _ A (isTrue e k.env (eval e k.env)) _ _ s) ok (fun y q es pos _ _ _ ok=>j4 hx ok rfl hA L R ev) ok
theorem zkR {i:Nat} (hx:SE k (.loc i)):ST k (.loc i):=fun e ok A s β H ρ p hA L R ev=>by
 exact yb (P:=fun e=>okE k.N k.lv k.env.kindOf (.loc i) e=true→wpAny _ A (isTrue e k.env (eval e k.env)) _ _ s) ok (fun y q _ ok=>j4 hx ok rfl hA L R ev) ok
theorem zk4 {op:Operator} {a b:X} (hx:SE k (.bin op a b)):ST k (.bin op a b):=fun e ok A s β H ρ p hA L R ev=>by
 exact qi (P:=fun e=>okE k.N k.lv k.env.kindOf (.bin op a b) e=true→wpAny _ A (isTrue e k.env (eval e k.env)) _ _ s) ok (fun _ _ _ _ _ ok=>j4 hx ok rfl hA L R ev) ok
theorem zmZ {a:X} (hx:SE k (.isB a)):ST k (.isB a):=fun e ok A s β H ρ p hA L R ev=>by
 exact zO (P:=fun e=>okE k.N k.lv k.env.kindOf (.isB a) e=true→wpAny _ A (isTrue e k.env (eval e k.env)) _ _ s) ok (fun y q es pos _ _ _ ok=>j4 hx ok rfl hA L R ev) ok
end
end Mine
end
section
namespace Mine
open PySem PySem.W PyProof.Rows PySem.Calls
open Sem (wp)
section
variable {k:Kt} {A:Around} {s:Shared} {β:Bt} {H H' H₁:AH} {ρ:Loc}
theorem zhw (R:Rel k.c β H s.heap) {xs:List AV} {us:List Value} (r:VRs k.c s.heap β xs us) {t:Nat} :
  Res k.c s β H (.tup xs) (.ref s.heap.objs.size) { s with heap:=s.heap.push { cls:=.type "tuple",data:=.seq us.toArray },toks:=t }:=by
 have kp:∀ b o,s.heap.get? b=some o→(s.heap.push { cls:=.type "tuple",data:=.seq us.toArray }).get? b=some o:=fun b o e=>Heap.get?_push_of_some _ e
 exact ⟨β,.grow R kp,.tup ⟨_,Heap.get?_push_size _ rfl,rfl,0,rfl⟩ (r.mono (.of_keep kp) (.refl _))⟩
theorem VRs.of_length {c:Cx} {h:Heap} {xs:List AV} {us:List Value} (r:VRs c h β xs us):us.length=xs.length:=r.length
theorem JX {G:Kb} {C:zi}:∀ {xs:List X} {ρ:Loc} {H:AH} {p:List AV×AH},KB G C xs ρ H=some p→p.1.length=xs.length
 | [],_,_,_,e=>oe (P:=fun p:List AV×AH=>p.1.length=0) e rfl
 | _::_,_,_,_,e=>ob e fun _ _ h=>om (P:=fun p:List AV×AH=>p.1.length=_ + 1) h fun _ h=>congrArg (· + 1) (JX h)
theorem Kv {N:Nm} {lv:List Str} {kd:Kd}:∀ {xs:List X} {es:List Expr},yY N lv kd xs es=true→es.length=xs.length
 | [],es,e=>zaZ (P:=fun es=>es.length=0) e rfl
 | _::_,[],e=>no e
 | _::_,_::_,h=>congrArg (· + 1) (Kv (tt h).2)
theorem zai {us:List Value} {n:Nat} (h:us.length=n) (h1:n≤1000):us.toArray.size≤sizeLine:=by
 rw [List.size_toArray,h]; exact Nat.le_trans h1 (by decide)
theorem zlr {xs:List X} (hx:SEs k xs):SE k (.tup xs):=fun e ok A s β H ρ p hA L R ev=>by
 refine qa ok fun es kk pos ok=>?_
 obtain ⟨ok,o3⟩:=tt ok
 refine Tuple_ ?_
 rw [zJ _ _ (tt ok).1]
 refine om (P:=fun p=>wpAny _ A _ (fun us s₁=>wpAny _ A (newTuple us) (Res k.c s β p.2 p.1) No s₁) No s) ev fun q h1=>hx.one o3 hA L R h1 fun us s₁ β₁ x₁ r₁=>?_
 exact wpAny_newObj_type ((zhw x₁.rel r₁).after x₁) (zai (r₁.length.trans ((JX h1).trans (Kv o3).symm)) (of_decide_eq_true (tt ok).2))
theorem zlq {xs:List X} (hx:SEs k xs):SE k (.lst xs):=fun e ok A s β H ρ p hA L R ev=>by
 refine zdY ok fun es pos ok=>?_
 obtain ⟨ok,o3⟩:=tt ok
 refine List_ ?_
 rw [zJ _ _ (tt ok).1]
 refine om (P:=fun p=>wpAny _ A _ (fun us s₁=>wpAny _ A (newList us) (Res k.c s β p.2 p.1) No s₁) No s) ev fun q h1=>hx.one o3 hA L R h1 fun us s₁ β₁ x₁ r₁=>?_
 exact wpAny_newObj_type ((VU x₁.rel r₁).after x₁) (zai (r₁.length.trans ((JX h1).trans (Kv o3).symm)) (of_decide_eq_true (tt ok).2))
theorem ob' {α β:Type} {o:Option α} {f:α→Option β} {r:β} (h:o.bind f=some r):∃ x,o=some x∧f x=some r:=ob h fun x a b=>⟨x,a,b⟩
theorem zil (K:k.Ok) {f:Nat} {xs:List X} (hx:SEs k xs):SE k (.call f xs):=fun e ok A s β H ρ p hA L R ev=>by
 refine zO ok fun x q es pos e1 o1 ok=>?_
 obtain ⟨mg,hg,_,m1,_⟩:=K.base.glob
 refine Call_Name (zJ _ _ (tt ok).1) (Vc K (R:=R) o1 hg (m1 f x e1) ?_)
 exact ob ev fun t h1 h2=>xO K.call hA.rc (yW _ _) (.nil (c:=k.c) (h:=s.heap) (β:=β)) (hx es (tt ok).2 A s β H ρ t hA L R h1) h2
theorem zlh (K:k.Ok) {q:Nat} {xs:List X} (hx:SEs k xs):SE k (.new q xs):=fun e ok A s β H ρ p hA L R ev=>by
 refine zO ok fun x px es pos e1 o1 ok=>?_
 obtain ⟨o2,o3⟩:=tt ok
 obtain ⟨mg,hg,_,_,m1,_⟩:=K.base.glob
 have gn:=K.base.new q x e1
 have hk:keepIn k.c.K (.ref (k.c.cls q))=true:=(tt (tt gn).1).2
 refine Call_Name (zJ _ _ o2) (Vc K (R:=R) o1 hg (m1 q x e1) ?_)
 have kp:=zbL (yW k.env es)
 refine ob ev fun t h1 h2=>?_
 refine callWith_of (P:=fun h=>k.c.K.In h) (by rw [kp]; rfl) (fun h X=>keeps_K hk h X) (zcM (yW _ _) (hx.one o3 hA L R h1 fun us s₁ β₁ x₁ r₁=>⟨K.base.kin.keeps x₁.base,yK x₁ (Yx ?_)⟩))
 have h2:(match k.G.init q with
  | some f=>(k.Cf f (.obj t.2.length::t.1) (t.2++[.inst q []])).bind fun q=>match q.1 with | .none=>some (.obj t.2.length,q.2) | _=>none
  | none=>match t.1 with | []=>some (.obj t.2.length,t.2++[.inst q []]) | _=>none)=some p:=h2
 generalize k.G.init q=o at gn h2
 induction o using Option.casesOn with
 | some f=>exact ob h2 fun w h3 h4=>zjw h4 fun e h4=>oe (P:=fun p=>codeAny _ A _ (OkV (Res k.c s₁ β₁ p.2 p.1)) s₁) h4 (zfe K.base.kin K.call hA x₁.rel gn r₁ (by rw [h3,← e]))
 | none =>
  obtain ⟨vs,H₁⟩:=t
  induction vs using List.casesOn with
  | cons=>exact nn h2
  | nil =>
   cases r₁
   exact oe (P:=fun p=>codeAny _ A _ (OkV (Res k.c s₁ β₁ p.2 p.1)) s₁) h2 (ze0 K.base.kin x₁.rel gn)
theorem zg8 {o:Expr} (h:Nat.beq o.ctorIdx 16=false) (attr:Str) (env:Env) (whole:Sem Value):attributeBase o attr env whole=whole:=by
 cases o <;> first | rfl | exact Bool.noConfusion h
theorem zdO {id:Str} (h:(id != "super")=true) (q p:Pos) (as:List Expr) (ks:List Keyword) (attr:Str) (env:Env) (whole:Sem Value):attributeBase (.Call (.Name id q) as ks p) attr env whole=whole:=by
 induction as using List.casesOn with
 | cons=>rfl
 | nil =>
  induction ks using List.casesOn with
  | cons=>rfl
  | nil=>unfold attributeBase; dsimp only; rw [h]; rfl
theorem Y4 {o:Expr} (h:WM o=true) (attr:Str) (env:Env) (whole:Sem Value):attributeBase o attr env whole=whole:=by
 cases e:Nat.beq o.ctorIdx 16 with
 | false=>exact zg8 e attr env whole
 | true =>
  unfold WM at h
  rw [e] at h
  exact WH (P:=fun o=>attributeBase o attr env whole=whole) h fun f as ks p h=>yb (P:=fun f=>attributeBase (.Call f as ks p) attr env whole=whole) h fun id q h=>zdO h q p as ks attr env whole
theorem VT {o:Expr} {name:Str} {apos pos:Pos} {args:List Expr} {env:Env} {E:Value→Shared→Prop} {Q:Value→Shared→Prop} (hb:WM o=true) (hn:args.all zj=true) (hl:args.length < 30) (hline:(apos.endLine == pos.line)=true)
  (h:wpAny (model k.c.prog k.c.w) A (eval o env) (fun ov s₁=>∀ pl,wpAny (model k.c.prog k.c.w) A (getMethod ov name pl) (fun fm s₂=>wpAny (model k.c.prog k.c.w) A (callWith pos fm.1 fm.2 (args.map fun e=>(false,eval e env)) []) Q E s₂) E s₁) E s) :
  wpAny (model k.c.prog k.c.w) A (eval (.Call (.Attribute o name apos) args [] pos) env) Q E s:=by
 rw [arm_eval_Call,Y4 hb,zJ _ _ hn]
 refine wpAny_bind (wpAny_mono h (fun ov s₁ h₁=>wpAny_bind (wpAny_standAt ?_)) fun _ _ e=>e)
 have hform:methodCallForm (args.length + ([]:List Keyword).length) (args.map fun e=>(false,eval e env)) (backToKw pos (keywordEach [] env))=true:=by
  unfold methodCallForm
  rw [yW]
  have e:backToKw pos (keywordEach [] env)=[]:=rfl
  rw [e]
  simpa using hl
 have hpos:methodCallPos true o env apos pos=pure pos:=by unfold methodCallPos; simp [hline]
 unfold methodCall
 rw [hform]
 refine wpAny_bind (wpAny_holding ?_)
 show wpAny _ _ (getMethod ov name _) _ _ _
 refine wpAny_mono (h₁ _) (fun fm s₂ h₂=>?_) fun _ _ e=>e
 exact wpAny_bind (wpAny_of_eq hpos h₂)
structure Gm (K:Frag) (C:Addr) (name:Str) (f:Addr):Prop where
 get:findIn K (.ref C) "__getattribute__"=some (some (.builtin "object.__getattribute__"))
 got:findIn K (.ref C) "__getattr__"=some none
 find:findIn K (.ref C) name=some (some (.ref f))
 type:typeIn K (.ref f)=some (.type "function")
theorem xY {K:Frag} {C:Addr} {name:Str} {f:Addr} (h:Y9 K C name f=true):Gm K C name f :=
 have h1:=tt h
 have h2:=tt h1.1
 have h3:=tt h2.1
 ⟨eq_of_beq h3.1,eq_of_beq h3.2,eq_of_beq h2.2,eq_of_beq h1.2⟩
theorem zoO {α:Type} {o:Option Nat} {a:Option AV} {f:Nat→Option α} {r:α} {P:Prop} (h:(match o,a with | some x,none=>f x | _,_=>none)=some r) (nx:∀ x,o=some x→a=none→f x=some r→P):P:=by
 match o,a,h with
 | some x,none,h=>exact nx x rfl rfl h
 | some _,some _,h=>exact nn h
 | none,some _,h=>exact nn h
 | none,none,h=>exact nn h
theorem ziH (K:k.Ok) {o:X} {n:Nat} {xs:List X} (ho:SE k o) (hx:SEs k xs):SE k (.meth o n xs):=fun e ok A s β H ρ p hA L R ev=>by
 refine JE ok fun w apos es pos o1 o2 o5 ok=>?_
 obtain ⟨ok,o6⟩:=tt ok
 refine VT o1 (tt ok).2 (of_decide_eq_true (tt ok).1) o2 (ho.use o5 hA L R ev fun q u s₁ β₁ x₁ r₁ ev pl=>?_)
 refine zbg ev fun r e ev=>zqW ev fun c fs hq ev=>zoO ev fun f hf hs ev=>?_
 clear ok o1 o2 ho
 rw [e] at r₁
 refine Rel.obI (P:=fun u=>VR k.c s₁.heap β₁ (.obj r) u→wpAny (model k.c.prog k.c.w) A (getMethod u (k.N.fld n) pl) _ No s₁) x₁.rel r₁ hq (fun d hp hat r₁=>hat.inI (P:=fun d=>VR k.c s₁.heap β₁ (.obj r) (.ref d.1)→wpAny (model k.c.prog k.c.w) A (getMethod (.ref d.1) (k.N.fld n) pl) _ No s₁) (fun a dx m es' h1 h2 rf r₁=>?_) r₁) r₁
 have g:=xY (K.base.meth _ _ _ hf)
 rw [← K.base.fe]
 refine method_fn (K.base.kin.keeps x₁.base) (j6 h1 h2) g.get g.got g.find g.type ?_ ?_
 ·obtain ⟨o,b,d⟩:=rf.look K.base.finj n m
  rw [hs] at d
  show Option.map (fun x=>x.isSome) (W.lookIn (k.c.fld n) (dictOf es' m))=some false
  rw [b]
  cases d; rfl
 ·exact ob ev fun t h3 h4=>yK x₁ (xO (fs:=[.obj _]) K.call hA.rc (yW _ _) (.cons r₁ .nil) (hx es o6 A s₁ β₁ _ ρ t hA (L.ext x₁) x₁.rel h3) h4)
theorem zir (K:k.Ok) {o:X} {n:Nat} (ho:SE k o):SE k (.attr o n):=fun e ok A s β H ρ p hA L R ev=>by
 refine KU ok fun w nm pos ok=>?_
 obtain ⟨ok,o2⟩:=tt ok
 cases eq_of_beq (tt ok).1
 refine Attribute_any_ (ho.use o2 hA L R ev fun q u s₁ β₁ x₁ r₁ ev=>?_) (by rw [arm_eval_Attribute,Y4 (tt ok).2])
 rw [← K.base.fe]
 exact om (P:=fun p=>wpAny _ A _ (Res k.c s β p.2 p.1) No s₁) ev fun w h3=>yK x₁ (Yc K.base.toBs x₁.rel r₁ h3)
theorem zmY (K:k.Ok) {o i:X} (ho:SE k o) (hi:SE k i):SE k (.idx o i):=fun e ok A s β H ρ p hA L R ev=>by
 refine Ji ok fun w sl pos ok=>?_
 obtain ⟨ok,o3⟩:=tt ok
 exact Subscript_ (ho.use (tt ok).2 hA L R ev fun q u s₁ β₁ x₁ r₁ ev=>hi.use o3 hA (L.ext x₁) x₁.rel ev fun t w' s₂ β₂ x₂ r₂ ev =>
  om (P:=fun p=>wpAny _ A _ (Res k.c s β p.2 p.1) No s₂) ev fun z h5=>yK (x₁.trans x₂) (zdp K.base.scr K.base.toBs hA.tk x₂.rel (tt ok).1 (x₂.vr r₁) r₂ h5))
end
end Mine
end
section
namespace Mine
open PySem PySem.W PyProof.Rows PySem.Calls
open Sem (wp)
section
variable {k:Kt} {A:Around} {s:Shared} {β:Bt} {H H' H₁:AH} {ρ:Loc}
theorem V9 {h:Heap} {a:Addr} {its:Array Value} (x:h.PlainList a its):h.NoDictAt (.ref a):=by obtain ⟨_,e⟩:=x; exact ⟨_,e,rfl⟩
theorem zbb {c:Cx} {s₁ s₂:Shared} {β₁:Bt} {t:Sem Value} {M:Model} {v:AV} (x:Ext c none s s₁ β β₁ H₁) (h:wpAny M A t (Res c s₁ β₁ H' v) No s₂):wpAny M A t (Res c s β H' v) No s₂ :=
 wpAny_mono h (fun _ _ r=>r.after x) fun _ _ e=>e
theorem om' {α β:Type} {o:Option α} {f:α→β} {r:β} {P:Prop} (h:o.map f=some r) (nx:∀ x,o=some x→f x=r→P):P:=by
 induction o using Option.casesOn with
 | none=>exact nn h
 | some x=>exact nx x rfl (Option.some.inj h)
theorem nts (y:Expr) (h:zj y=true):[y].all zj=true:=by rw [List.all_cons,h]; rfl
theorem zi9 (y z:Expr) (h:zj y=true) (h2:zj z=true):[y,z].all zj=true:=by rw [List.all_cons,h]; exact nts z h2
theorem zen {o a:X} (ho:SE k o) (ha:SE k a):SE k (.append o a):=fun e ok A s β H ρ p hA L R ev=>by
 refine JE ok fun w apos es pos o1 o2 o4 ok=>?_
 revert ok
 refine fun ok=>Vy (P:=fun es=>wpAny _ A (eval (.Call (.Attribute w "append" apos) es [] pos) k.env) _ _ s) ok fun y ok=>?_
 refine VT o1 (nts y (tt ok).1) (by simp) o2 (ho.use o4 hA L R ev fun t u s₁ β₁ x₁ r₁ ev pl=>?_)
 refine zbg ev fun q e ev=>xT ev fun xs0 hq0 ev=>?_
 rw [e] at r₁
 refine x₁.rel.lsI r₁ hq0 fun l us g hl _=>getMethod_list_of PySem.F.slot_list_append PySem.F.type_list_append hl.isList (V9 hl) ?_
 refine callWith_builtin rfl (evalArgs_plain (spliced_cons (ha.use (tt ok).2 hA (L.ext x₁) x₁.rel ev fun t2 y s₂ β₂ x₂ r₂ ev=>spliced_nil ?_)))
 exact xT ev fun xs hq ev=>og ev fun hz ev=>oe (P:=fun p=>wpAny _ A _ (Res k.c s β p.2 p.1) No s₂) ev (yK (x₁.trans x₂) (zb5 x₂.rel (x₂.pre _ _ g) hq hz r₂))
theorem zqo {β:Type} {o:Option AV} {f:AV→Option β} {r:β} {P:Prop} (h:(match o with | some v=>f v | none=>none)=some r) (nx:∀ x,o=some x→f x=some r→P):P:=by
 induction o using Option.casesOn with
 | none=>exact nn h
 | some x=>exact nx x rfl h
theorem zl2 {o:X} (ho:SE k o):SE k (.pop o):=fun e ok A s β H ρ p hA L R ev=>by
 refine JE ok fun w apos es pos o1 o2 o4 ok=>?_
 refine zaZ (P:=fun es=>wpAny _ A (eval (.Call (.Attribute w "pop" apos) es [] pos) k.env) _ _ s) ok ?_
 refine VT o1 rfl (by simp) o2 (ho.use o4 hA L R ev fun t u s₁ β₁ x₁ r₁ ev pl=>?_)
 refine zbg ev fun q e ev=>xT ev fun xs hq ev=>zqo ev fun x hx ev=>og ev fun hz ev=>?_
 rw [e] at r₁
 refine x₁.rel.lsI r₁ hq fun l us g hl _=>getMethod_list_of PySem.F.slot_list_pop PySem.F.type_list_pop hl.isList (V9 hl) ?_
 exact callWith_builtin rfl (evalArgs_nil3 (oe (P:=fun p=>wpAny _ A _ (Res k.c s β p.2 p.1) No s₁) ev (yK x₁ (ziD x₁.rel g hq hz hx))))
inductive Kr (h:Heap):Value→Prop
 | mk {d:Addr} {o:Obj}:h.get? d=some o→o.cls=.type "dict"→o.dict=none→(d == sysModules)=false→Kr h (.ref d)
theorem zfZ {c:Cx} {K:Type} [DecidableEq K] {knd:KeyKind c.prog c.w K} {h h':Heap} {d:Addr} {kvs:List (K×Value)} (x:h'.DictOf knd d kvs) (k:∀ o,h'.get? d=some o→h.get? d=some o) (hs:(d == sysModules)=false):Kr h (.ref d) :=
 by obtain ⟨_,_,_,h1,h2,_⟩:=x; exact .mk (k _ h1) h2.1 h2.2.1 hs
theorem qh (B:Bs k.c) (R:Rel k.c β H s.heap) {o:AV} {u:Value} (ro:VR k.c s.heap β o u) (hd:Ke H o=true):Kr s.heap u:=by
 induction o using AV.casesOn with
 | obj q =>
  have hd:(match H[q]? with | some (.dict _ _)=>true | _=>false)=true:=hd
  cases hq:H[q]? with
  | none=>rw [hq] at hd; exact no hd
  | some x =>
   rw [hq] at hd
   induction x using AO.casesOn with
   | dict kd es =>
    refine R.obI ro hq fun p g hat=>?_
    have hs:=Ju B R g
    revert hs
    induction kd using Option.casesOn with
    | none=>exact OAt.ndI (P:=fun p=>(p.1 == sysModules)=false→Kr s.heap (.ref p.1)) hat fun _ _ _ hn hs=>.mk hn rfl rfl hs
    | some kd =>
     cases kd with
     | int=>exact OAt.itI (P:=fun p=>(p.1 == sysModules)=false→Kr s.heap (.ref p.1)) hat fun _ _ d _ hs=>zfZ d (fun _ e=>e) hs
     | str=>exact OAt.srI (P:=fun p=>(p.1 == sysModules)=false→Kr s.heap (.ref p.1)) hat fun _ _ d _ hs=>zfZ d (fun _ e=>e) hs
     | tup=>exact OAt.tpI (P:=fun p=>(p.1 == sysModules)=false→Kr s.heap (.ref p.1)) hat fun _ _ d _ hs=>by obtain ⟨_,_,_,h1,h2,_⟩:=d; exact .mk h1 h2.1 h2.2.1 hs
   | _=>exact no hd
 | cst q =>
  obtain ⟨t,ht⟩:=Option.isSome_iff_exists.mp (hd:(Yi q).isSome=true)
  obtain ⟨hs,kvs,hd,_⟩:=B.cd _ _ ht
  cases ro
  exact zfZ hd (fun _=>R.base _ _) hs
 | _=>exact no hd
theorem qo {u:Value} (D:Kr s.heap u) {pl:Sem Bool} {Q:Value×List Value→Shared→Prop} {E:Value→Shared→Prop} (q:∀ d,u=.ref d→(d == sysModules)=false→Q (.builtin "dict.get",[u]) s) :
  wpAny (model k.c.prog k.c.w) A (getMethod u "get" pl) Q E s:=by
 cases D with
 | mk h1 h2 h3 h4=>exact getMethod_builtin ⟨_,h1,h2⟩ PySem.F.plainAttrs_dict PySem.F.slot_dict_get PySem.F.type_dict_get (fun a e=>by cases e; exact ⟨_,h1,h3⟩) (q _ rfl h4)
theorem ziE (K:k.Ok) {o a:X} (ho:SE k o) (ha:SE k a):SE k (.get1 o a):=fun e ok A s β H ρ p hA L R ev=>by
 refine JE ok fun w apos es pos o1 o2 o4 ok=>?_
 refine Vy (P:=fun es=>wpAny _ A (eval (.Call (.Attribute w "get" apos) es [] pos) k.env) _ _ s) ok fun y ok=>?_
 refine VT o1 (nts y (tt ok).1) (by simp) o2 (ho.use o4 hA L R ev fun t u s₁ β₁ x₁ r₁ ev pl=>ot ev fun hd ev=>qo (qh K.base.toBs x₁.rel r₁ hd) fun d hu hs=>?_)
 subst hu
 refine zhx hA.tk hs (ha.use (tt ok).2 hA (L.ext x₁) x₁.rel ev fun t2 key s₂ β₂ x₂ r₂ ev=>?_)
 refine om' ev fun r h5 hp=>?_
 subst hp
 obtain ⟨d',e',_,D⟩:=K8 K.base.toBs x₂.rel h5 (x₂.vr r₁)
 cases e'
 exact .mk D r₂ .none fun u t hu=>⟨β₂,(x₁.trans x₂).trans (.tok x₂.rel),hu⟩
theorem ziW (K:k.Ok) {o a b:X} (ho:SE k o) (ha:SE k a) (hb:SE k b):SE k (.get2 o a b):=fun e ok A s β H ρ p hA L R ev=>by
 refine JE ok fun w apos es pos o1 o2 o4 ok=>?_
 refine q6 (P:=fun es=>wpAny _ A (eval (.Call (.Attribute w "get" apos) es [] pos) k.env) _ _ s) ok fun y z ok=>?_
 obtain ⟨ok,o7⟩:=tt ok
 obtain ⟨ok,o6⟩:=tt ok
 refine VT o1 (zi9 y z (tt ok).1 (tt ok).2) (by simp) o2 (ho.use o4 hA L R ev fun t u s₁ β₁ x₁ r₁ ev pl=>ot ev fun hd ev=>qo (qh K.base.toBs x₁.rel r₁ hd) fun d hu hs=>?_)
 subst hu
 refine ziO hA.tk hs (ha.use o6 hA (L.ext x₁) x₁.rel ev fun t2 key s₂ β₂ x₂ r₂ ev=>hb.use o7 hA ((L.ext x₁).ext x₂) x₂.rel ev fun t3 w s₃ β₃ x₃ r₃ ev=>?_)
 refine om' ev fun r h7 hp=>?_
 subst hp
 obtain ⟨d',e',_,D⟩:=K8 K.base.toBs x₃.rel h7 (x₃.vr (x₂.vr r₁))
 cases e'
 exact .mk D (x₃.vr r₂) r₃ fun u t hu=>⟨β₃,((x₁.trans x₂).trans x₃).trans (.tok x₃.rel),hu⟩
theorem zmb (K:k.Ok) {a:X} (ha:SE k a):SE k (.len a):=fun e ok A s β H ρ p hA L R ev=>by
 refine zO ok fun x px es pos e1 o1 ok=>?_
 cases e1
 refine Vy (P:=fun es=>wpAny _ A (eval (.Call (.Name "len" px) es [] pos) k.env) _ _ s) ok fun y ok=>?_
 obtain ⟨mb,hb,m1,_⟩:=K.base.blt
 refine Call_Name (zJ (es:=[y]) _ _ (nts y (tt ok).1)) (Jv K (R:=R) o1 hb m1 (by simp) ?_)
 refine callWith_builtin rfl (evalArgs_plain (spliced_cons (ha.use (tt ok).2 hA L R ev fun t u s₁ β₁ x₁ r₁ ev=>spliced_nil ?_)))
 obtain ⟨v,H₁⟩:=t
 induction v using AV.casesOn with
 | tup xs=>exact og ev fun hz ev=>oe (P:=fun p=>wpAny _ A _ (Res k.c s β p.2 p.1) No s₁) ev (yK x₁ (za0 x₁.rel r₁ hz))
 | obj r=>exact xT ev fun xs hq ev=>og ev fun hz ev=>oe (P:=fun p=>wpAny _ A _ (Res k.c s β p.2 p.1) No s₁) ev (yK x₁ (jX x₁.rel r₁ hq hz))
 | cst c =>
  refine ot ev fun hq ev=>og ev fun hz ev=>oe (P:=fun p=>wpAny _ A _ (Res k.c s β p.2 p.1) No s₁) ev ?_
  cases Nat.eq_of_beq_eq_true hq
  exact yK x₁ (xZ K.base.scr x₁.rel r₁ hz)
 | _=>exact nn ev
theorem zkv (K:k.Ok) {a:X} (ha:SE k a):SE k (.isB a):=fun e ok A s β H ρ p hA L R ev=>by
 refine zO ok fun x px es pos e1 o1 ok=>?_
 cases e1
 refine q6 (P:=fun es=>wpAny _ A (eval (.Call (.Name "isinstance" px) es [] pos) k.env) _ _ s) ok fun y z ok=>?_
 obtain ⟨ok,o4⟩:=tt ok
 refine zdh (P:=fun z=>wpAny _ A (eval (.Call (.Name "isinstance" px) [y,z] [] pos) k.env) _ _ s) (tt ok).1 fun w p' e2 o2=>?_
 cases e2
 obtain ⟨mb,hb,_,m1,m2,_⟩:=K.base.blt
 refine Call_Name (zJ (es:=[y,.Name "bool" p']) _ _ (zi9 y _ (tt ok).2 rfl)) (Jv K (R:=R) o1 hb m1 (by simp) ?_)
 refine callWith_builtin rfl (evalArgs_plain (spliced_cons (ha.use o4 hA L R ev fun t u s₁ β₁ x₁ r₁ ev=>spliced_cons (Jv K (R:=x₁.rel) o2 hb m2 (by simp) (spliced_nil ?_)))))
 exact zjp ev fun i e ev=>oe (P:=fun p=>wpAny _ A _ (Res k.c s β p.2 p.1) No s₁) ev (yK x₁ (zix x₁.rel (e ▸ r₁)))
theorem zgZ (K:k.Ok) {a:X} (ha:SE k a):SE k (.tuple a):=fun e ok A s β H ρ p hA L R ev=>by
 refine zO ok fun x px es pos e1 o1 ok=>?_
 cases e1
 refine Vy (P:=fun es=>wpAny _ A (eval (.Call (.Name "tuple" px) es [] pos) k.env) _ _ s) ok fun y ok=>?_
 obtain ⟨mb,hb,_,_,_,m1,_⟩:=K.base.blt
 refine Call_Name (zJ (es:=[y]) _ _ (nts y (tt ok).1)) (Jv K (R:=R) o1 hb m1 (by simp) ?_)
 refine PyProof.Rows.callWith_type rfl (evalArgs_plain (spliced_cons (ha.use (tt ok).2 hA L R ev fun t u s₁ β₁ x₁ r₁ ev=>spliced_nil ?_)))
 exact zbg ev fun q e ev=>xT ev fun xs hq ev=>og ev fun hz ev=>oe (P:=fun p=>wpAny _ A _ (Res k.c s β p.2 p.1) No s₁) ev (yK x₁ (zdN x₁.rel (e ▸ r₁) hq hz))
theorem oII {α:Type} {a b:AV} {f:Int→Int→Option α} {r:α} {P:Prop} (h:(match a,b with | .int x,.int y=>f x y | _,_=>none)=some r) (nx:∀ x y,a=.int x→b=.int y→f x y=some r→P):P:=by
 induction a using AV.casesOn with
 | int x=>induction b using AV.casesOn with
  | int y=>exact nx x y rfl rfl h
  | _=>exact nn h
 | _=>exact nn h
theorem zms (K:k.Ok) {a b:X} (ha:SE k a) (hb:SE k b):SE k (.max2 a b):=fun e ok A s β H ρ p hA L R ev=>by
 refine zO ok fun x px es pos e1 o1 ok=>?_
 cases e1
 refine q6 (P:=fun es=>wpAny _ A (eval (.Call (.Name "max" px) es [] pos) k.env) _ _ s) ok fun y z ok=>?_
 obtain ⟨ok,o5⟩:=tt ok
 obtain ⟨ok,o4⟩:=tt ok
 obtain ⟨mb,hb',_,_,_,_,m1,_⟩:=K.base.blt
 refine Call_Name (zJ (es:=[y,z]) _ _ (zi9 y z (tt ok).1 (tt ok).2)) (Jv K (R:=R) o1 hb' m1 (by simp) ?_)
 refine callWith_builtin rfl (evalArgs_plain (spliced_cons (ha.use o4 hA L R ev fun t u s₁ β₁ x₁ r₁ ev=>spliced_cons (hb.use o5 hA (L.ext x₁) x₁.rel ev fun t2 w s₂ β₂ x₂ r₂ ev=>spliced_nil ?_))))
 exact oII ev fun i j e1 e2 ev=>oe (P:=fun p=>wpAny _ A _ (Res k.c s β p.2 p.1) No s₂) ev (yK (x₁.trans x₂) (zhj x₂.rel hA.hnd (x₂.vr (e1 ▸ r₁)) (e2 ▸ r₂)))
theorem zmN (K:k.Ok) {a b:X} (ha:SE k a) (hb:SE k b):SE k (.min2 a b):=fun e ok A s β H ρ p hA L R ev=>by
 refine zO ok fun x px es pos e1 o1 ok=>?_
 cases e1
 refine q6 (P:=fun es=>wpAny _ A (eval (.Call (.Name "min" px) es [] pos) k.env) _ _ s) ok fun y z ok=>?_
 obtain ⟨ok,o5⟩:=tt ok
 obtain ⟨ok,o4⟩:=tt ok
 obtain ⟨mb,hb',_,_,_,_,_,m1,_⟩:=K.base.blt
 refine Call_Name (zJ (es:=[y,z]) _ _ (zi9 y z (tt ok).1 (tt ok).2)) (Jv K (R:=R) o1 hb' m1 (by simp) ?_)
 refine callWith_builtin rfl (evalArgs_plain (spliced_cons (ha.use o4 hA L R ev fun t u s₁ β₁ x₁ r₁ ev=>spliced_cons (hb.use o5 hA (L.ext x₁) x₁.rel ev fun t2 w s₂ β₂ x₂ r₂ ev=>spliced_nil ?_))))
 exact oII ev fun i j e1 e2 ev=>oe (P:=fun p=>wpAny _ A _ (Res k.c s β p.2 p.1) No s₂) ev (yK (x₁.trans x₂) (zh2 x₂.rel hA.hnd (x₂.vr (e1 ▸ r₁)) (e2 ▸ r₂)))
theorem yP {α:Type} {o:Option α} (h:o.isNone=true):o=none:=by
 induction o using Option.casesOn with
 | none=>rfl
 | some _=>exact no h
theorem YY {n:Nat} {b:Option Expr} {P:Option Expr→Prop} (h:zb8 n b=true) (nx:∀ q p1 p2,P (some (.UnaryOp .USub (.Constant (.int n) q p1) p2))):P b:=by
 induction b using Option.casesOn with
 | none=>exact no h
 | some x =>
  refine W6 (P:=fun x=>P (some x)) h fun o y p2 h=>?_
  cases eq_of_beq (tt h).1
  refine Jj (P:=fun y=>P (some (.UnaryOp .USub y p2))) (tt h).2 fun c q p1 h=>?_
  cases c with
  | int j=>cases (of_decide_eq_true h:(n:Int)=j); exact nx q p1 p2
  | _=>exact no h
theorem zas {o:X} (ho:SE k o):SE k (.sliceAll o):=fun e ok A s β H ρ p hA L R ev=>by
 refine Ji ok fun w sl pos ok=>?_
 refine KX (P:=fun sl=>wpAny _ A (eval (.Subscript w sl pos) k.env) _ _ s) (tt ok).1 fun a b c p2 h=>?_
 obtain ⟨h12,h3⟩:=tt h
 obtain ⟨h1,h2⟩:=tt h12
 cases yP h3
 cases yP h1
 cases yP h2
 refine Subscript_ (ho.use (tt ok).2 hA L R ev fun t u s₁ β₁ x₁ r₁ ev=>?_)
 exact zbg ev fun q e ev=>xT ev fun xs hq ev=>og ev fun hz ev=>oe (P:=fun p=>wpAny _ A _ (fun i s₂=>wpAny _ A (subscriptTail _ _ u i) (Res k.c s β p.2 p.1) No s₂) No s₁) ev (wpAny_mono (jM x₁.rel (e ▸ r₁) hq hz) (fun i s₂ h=>zbb x₁ h) fun _ _ e=>e)
theorem Zs {j:Int} {q:Nat} {p1 p2:Pos} {Q:Value→Shared→Prop} {E:Value→Shared→Prop} {env:Env} (h:∀ t n,Q (.int (-j) t) { s with toks:=n }) :
  wpAny (model k.c.prog k.c.w) A (eval (.UnaryOp .USub (.Constant (.int j) q p1) p2) env) Q E s :=
 UnaryOp_ (wpAny_Constant_int (PyProof.Rows.neg_int (h _ _)))
theorem zbA {o:X} {n:Nat} (ho:SE k o):SE k (.sliceTo o n):=fun e ok A s β H ρ p hA L R ev=>by
 refine Ji ok fun w sl pos ok=>?_
 refine KX (P:=fun sl=>wpAny _ A (eval (.Subscript w sl pos) k.env) _ _ s) (tt ok).1 fun a b c p2 h=>?_
 obtain ⟨h12,h3⟩:=tt h
 obtain ⟨h1,h2⟩:=tt h12
 cases yP h3
 cases yP h1
 refine YY (P:=fun b=>wpAny _ A (eval (.Subscript w (.Slice none b none p2) pos) k.env) _ _ s) h2 fun q p1 p3=>?_
 refine Subscript_ (ho.use (tt ok).2 hA L R ev fun t u s₁ β₁ x₁ r₁ ev=>zmS ev fun cs e ev=>og ev fun hz ev=>?_)
 refine oe (P:=fun p=>wpAny _ A _ (fun i s₂=>wpAny _ A (subscriptTail _ _ u i) (Res k.c s β p.2 p.1) No s₂) No s₁) ev (wpAny_Slice (evalPart_none_step (evalPart_some_step (Zs fun t' m=>evalPart_none_step ?_))))
 have x₂:=x₁.trans (.tok x₁.rel (t:=m))
 exact zbb x₂ (V3 (l:=none) (u:=some (-(n:Int),t')) x₂.rel (e ▸ r₁:VR k.c _ _ _ _) hz.2 (zeB cs n hz.1))
theorem jq {o:X} {n:Nat} (ho:SE k o):SE k (.sliceFrom o n):=fun e ok A s β H ρ p hA L R ev=>by
 refine Ji ok fun w sl pos ok=>?_
 refine KX (P:=fun sl=>wpAny _ A (eval (.Subscript w sl pos) k.env) _ _ s) (tt ok).1 fun a b c p2 h=>?_
 obtain ⟨h12,h3⟩:=tt h
 obtain ⟨h1,h2⟩:=tt h12
 cases yP h3
 cases yP h2
 refine YY (P:=fun a=>wpAny _ A (eval (.Subscript w (.Slice a none none p2) pos) k.env) _ _ s) h1 fun q p1 p3=>?_
 refine Subscript_ (ho.use (tt ok).2 hA L R ev fun t u s₁ β₁ x₁ r₁ ev=>zmS ev fun cs e ev=>og ev fun hz ev=>?_)
 refine oe (P:=fun p=>wpAny _ A _ (fun i s₂=>wpAny _ A (subscriptTail _ _ u i) (Res k.c s β p.2 p.1) No s₂) No s₁) ev (wpAny_Slice (evalPart_some_step (Zs fun t' m=>evalPart_none_step (evalPart_none_step ?_))))
 have x₂:=x₁.trans (.tok x₁.rel (t:=m))
 exact zbb x₂ (V3 (l:=some (-(n:Int),t')) (u:=none) x₂.rel (e ▸ r₁:VR k.c _ _ _ _) hz.2 (zbP cs n hz.1))
end
end Mine
end
section
namespace Mine
open PySem PySem.W PyProof.Rows PySem.Calls
open Sem (wp)
section
variable {prog:Program} {w:World} {K:Type} [DecidableEq K] {knd:KeyKind prog w K} {A:Around} {E:Value→Shared→Prop} {s:Shared}
theorem Vg {d:Addr} {kvs:List (K×Value)} {k:K} {key v:Value} {Q:Unit→Shared→Prop} (hkey:knd.is k key=true) (hm:s.heap.DictOf knd d kvs)
  (hQ:∀ h',h'.DictOf knd d (stored kvs k v)→Heap.SameBut d s.heap h'→Q () { s with heap:=h' })
  (hsz:kvs.length≤sizeLine) :
  wpAny (model prog w) A (dictPut d (knd.hash k) key v) Q E s:=by
 obtain ⟨o,es,ep,ho,hc,hd,hk,hp,hn⟩:=hm
 have hes:es.size≤sizeLine:=by
  have e1:=hp.length
  have e2:es.toList.length=es.size:=by simp
  lia
 unfold dictPut
 refine wpAny_bind (wpAny_dictFind_of hkey ho hd hk ?_)
 have hidx:(es.findIdx? fun e=>knd.is k e.key)=kvs.findIdx? fun kv=>decide (kv.1=k):=by
  rw [← hp.findIdx k]; obtain ⟨l⟩:=es; simp
 cases hi:es.findIdx? fun e=>knd.is k e.key with
 | some i =>
  refine wpAny_updateDict ho hd (hQ _ ⟨_,_,ep,Heap.get?_update_self _ ho (Obj.isFreed_of_dict (Obj.data_mapDict hd _)),hc.mapDict _,Obj.data_mapDict hd _,hk.modify _ _,?_,?_⟩ (Heap.SameBut.update ..)) (by simp)
  ·rw [stored,if_pos (any_of_findIdx_some (hidx ▸ hi))]
   have hl:(es.toList.findIdx? fun e=>knd.is k e.key)=some i:=by rw [← hi]; obtain ⟨l⟩:=es; simp
   have:=hp.modify hn hl v
   obtain ⟨l⟩:=es
   simpa using this
  ·rw [stored,if_pos (any_of_findIdx_some (hidx ▸ hi)),keys_map_store]; exact hn
 | none =>
  have hnot:k∉kvs.map (·.1):=not_mem_of_findIdx_none (hidx ▸ hi)
  have hany:¬ (kvs.any fun kv=>decide (kv.1=k))=true:=by
   rw [List.any_eq_true]; rintro ⟨kv,hkv,he⟩
   exact hnot (List.mem_map.mpr ⟨kv,hkv,of_decide_eq_true he⟩)
  refine wpAny_updateDictKeys ho hd (hQ _ ⟨_,_,ep + 1,Heap.get?_update_self _ ho (Obj.isFreed_of_dict (Obj.data_mapDictKeys hd _)),hc.mapDictKeys _,Obj.data_mapDictKeys hd _,hk.push hkey _,?_,?_⟩ (Heap.SameBut.update ..)) hes (by simp)
  ·rw [stored,if_neg hany]
   have:=hp.append hkey (knd.hash k) v
   obtain ⟨l⟩:=es
   simpa using this
  ·rw [stored,if_neg hany,List.map_append,List.nodup_append]
   refine ⟨hn,by simp,?_⟩
   intro a ha b hb
   simp only [List.map_cons,List.map_nil,List.mem_singleton] at hb
   subst hb
   exact fun e=>hnot (e ▸ ha)
inductive MMs {prog:Program} {w:World} {K:Type} [DecidableEq K] (knd:KeyKind prog w K) (s:Shared) (d o:Addr) (kvs more:List (K×Value)) (oo:Obj) (n:Nat) (rest:List Nat) (s':Shared):Prop
 | mk (h':Heap) (i:Nat) (hs:s'={ s with heap:=h' }) (hr:rest=List.range' i (n - i)) (hi:i≤n) (hd:h'.DictOf knd d (merged kvs (more.take i))) (ho:h'.get? o=some oo) (hk:Heap.SameBut d s.heap h')
theorem Zm {d o:Addr} {kvs more:List (K×Value)} {Q:Unit→Shared→Prop} (hdo:d≠o) (hoS:(o == sysModules)=false) (hne:kvs≠[])
  (hd:s.heap.DictOf knd d kvs) (ho:s.heap.DictOf knd o more)
  (hQ:∀ h',h'.DictOf knd d (merged kvs more)→Heap.SameBut d s.heap h'→Q () { s with heap:=h' })
  (hsz:kvs.length + more.length≤sizeLine) :
  wpAny (model prog w) A (mergeMapping d (.ref o) false) Q E s:=by
 have hT:=ho.typeIs
 obtain ⟨od,esd,epd,hod,hcd,hdd,hkd,hpd,hnd⟩:=id hd
 obtain ⟨oo,eso,epo,hoo,hco,hdo',hko,hpo,hno⟩:=id ho
 have hlen:more.length=eso.size:=by rw [← hpo.length]; simp
 unfold mergeMapping
 refine wpAny_bind (wpAny_isInstance hT isSubtype_dict_dict ?_)
 rw [if_pos rfl]
 refine wpAny_bind (wpAny_specialOf hT F.slot_dict_iter.lookup (wpAny_bind (wpAny_pure ?_)))
 rw [show ((some (Value.builtin "dict.__iter__"):Option Value) == some (.builtin "dict.__iter__"))=true from by rw [beq_self_eq_true]]
 dsimp only
 rw [if_neg (by rw [hoS]; exact Bool.false_ne_true)]
 refine wpAny_bind (wpAny_dictEntries hod hdd ?_)
 have hemp:¬ esd.isEmpty=true:=fun h=>by
  have h0:esd=#[]:=Array.isEmpty_iff.mp h
  have:=hpd.length
  rw [h0] at this
  exact hne (List.length_eq_zero_iff.mp (by simpa using this.symm))
 rw [if_neg hemp]
 refine wpAny_bind (wpAny_dictEntries hoo hdo' ?_)
 refine wpAny_bind (wpAny_dictEpoch hoo hdo' ?_)
 refine wpAny_bind ?_
 refine wpAny_forIn_list _ (fun rest _ s'=>MMs knd s d o kvs more oo eso.size rest s') _ ?_ ?_ _ _ ⟨s.heap,0,rfl,List.range_eq_range',Nat.zero_le _,hd,hoo,Heap.SameBut.refl _ _⟩
 ·intro x rest b s' z
  obtain ⟨h',i,rfl,hr,hi,hd',hoo',hs'⟩:=z
  have hlt:i < eso.size:=by
   rcases Nat.lt_or_ge i eso.size with h | h
   ·exact h
   ·rw [Nat.sub_eq_zero_of_le h] at hr; simp at hr
  obtain ⟨rfl,hrest⟩:x=i∧rest=List.range' (i + 1) (eso.size - (i + 1)):=by
   have e:eso.size - i=(eso.size - (i + 1)) + 1:=by lia
   rw [e,List.range'_succ] at hr
   injection hr with h1 h2
   exact ⟨h1,h2⟩
  refine wpAny_bind (wpAny_dictEntries hoo' hdo' ?_)
  rw [Array.getElem?_eq_getElem hlt]
  obtain ⟨kv,hkv⟩:∃ kv,more[x]?=some kv:=⟨more[x]'(by rw [hlen]; exact hlt),List.getElem?_eq_getElem _⟩
  obtain ⟨k,v⟩:=kv
  obtain ⟨hkey,hval⟩:=hpo.get? (e:=eso[x]) (by simp [hlt]) hkv
  obtain ⟨k',hkey',hhash⟩:=hko eso[x] (Array.getElem_mem hlt)
  obtain rfl:k'=k:=knd.inj _ _ _ hkey' hkey
  dsimp only
  rw [hhash,hval,if_neg (by decide)]
  have hmx:(merged kvs (more.take x)).length≤sizeLine:=by
   have e1:=merged_length_le kvs (more.take x)
   have e2:(more.take x).length≤more.length:=by rw [List.length_take]; lia
   lia
  refine wpAny_bind (wpAny_holding (Vg hkey hd' (fun h'' hd'' hs''=>?_) hmx))
  have hoo'':h''.get? o=some oo:=(hs''.2 o (Ne.symm hdo)).trans hoo'
  refine wpAny_bind (wpAny_dictEpoch hoo'' hdo' ?_)
  rw [if_neg (by simp)]
  exact wpAny_pure ⟨h'',x + 1,rfl,hrest,hlt,by rw [merged_take_succ kvs more x (k',v) hkv]; exact hd'',hoo'',hs'.trans hs''⟩
 ·intro b s' z
  obtain ⟨h',i,rfl,hr,hi,hd',hoo',hs'⟩:=z
  have hin:i=eso.size:=by
   rcases Nat.lt_or_ge i eso.size with h | h
   ·have e:eso.size - i=(eso.size - (i + 1)) + 1:=by lia
    rw [e,List.range'_succ] at hr; exact nomatch hr
   ·exact Nat.le_antisymm hi h
  refine wpAny_pure (hQ h' ?_ hs')
  rw [hin,← hlen,List.take_length] at hd'; exact hd'
end
noncomputable def zl1 (M:Model) (m:Sem Value) (x:Str):Prop:=∀ (A:Around) (E:Value→Shared→Prop) (s:Shared) (Q:Value→Shared→Prop),(∀ t n,Q (.str x t) { s with toks:=n })→wpAny M A m Q E s
noncomputable def PS (M:Model):List (Sem Value×Sem Value)→List (Str×Str)→Prop
 | [],[]=>True
 | p::r,ab::q=>zl1 M p.1 ab.1∧zl1 M p.2 ab.2∧PS M r q
 | _,_=>False
noncomputable def VS:List (Str×Str)→List (Str×Value)→Prop
 | [],[]=>True
 | ab::r,kv::q=>kv.1=ab.1∧(∃ t,kv.2=.str ab.2 t)∧VS r q
 | _,_=>False
theorem VS.keys:∀ {abs:List (Str×Str)} {kvs:List (Str×Value)},VS abs kvs→kvs.map (·.1)=abs.map (·.1)
 | [],[],_=>rfl
 | _::_,_::_,h=>by rw [List.map_cons,List.map_cons,h.1,VS.keys h.2.2]
 | [],_::_,h=>h.elim
 | _::_,[],h=>h.elim
theorem VS.len {abs:List (Str×Str)} {kvs:List (Str×Value)} (h:VS abs kvs):kvs.length=abs.length:=by
 have:=congrArg List.length h.keys
 simpa using this
theorem VS.app:∀ {abs:List (Str×Str)} {kvs:List (Str×Value)},VS abs kvs→∀ {bbs kws},VS bbs kws→VS (abs++bbs) (kvs++kws)
 | [],[],_,_,_,h=>h
 | _::_,_::_,h,_,_,h'=>⟨h.1,h.2.1,VS.app h.2.2 h'⟩
 | [],_::_,h,_,_,_=>h.elim
 | _::_,[],h,_,_,_=>h.elim
theorem PS.len {M:Model}:∀ {ps:List (Sem Value×Sem Value)} {abs:List (Str×Str)},PS M ps abs→ps.length=abs.length
 | [],[],_=>rfl
 | _::_,_::_,h=>by rw [List.length_cons,List.length_cons,PS.len h.2.2]
 | [],_::_,h=>h.elim
 | _::_,[],h=>h.elim
theorem PS.take {M:Model}:∀ {n:Nat} {ps:List (Sem Value×Sem Value)} {abs:List (Str×Str)},PS M ps abs→PS M (ps.take n) (abs.take n)∧PS M (ps.drop n) (abs.drop n)
 | 0,_,_,h=>⟨trivial,h⟩
 | n + 1,[],[],_=>⟨trivial,trivial⟩
 | n + 1,_::_,_::_,h=>⟨⟨h.1,h.2.1,(PS.take h.2.2).1⟩,(PS.take (n:=n) h.2.2).2⟩
 | _ + 1,[],_::_,h=>h.elim
 | _ + 1,_::_,[],h=>h.elim
section
variable {prog:Program} {w:World} {A:Around} {E:Value→Shared→Prop} {s:Shared}
theorem Vm:∀ {ps:List (Sem Value×Sem Value)} {abs:List (Str×Str)} {s:Shared} {Q:List (Value×Value)→Shared→Prop},PS (model prog w) ps abs →
  (∀ vs kvs n,Carries (strKind prog w) vs kvs→VS abs kvs→Q vs { s with toks:=n })→wpAny (model prog w) A (evalPairs ps) Q E s
 | [],[],s,Q,_,h=>evalPairs_nil (h [] [] s.toks trivial trivial)
 | (a,b)::ps,ab::abs,s,Q,hp,h=>evalPairs_cons (hp.1 _ _ _ _ fun t n=>hp.2.1 _ _ _ _ fun t' n'=>Vm hp.2.2 fun vs kvs n'' hc hv=>h _ ((ab.1,.str ab.2 t')::kvs) n'' ⟨strKind_is _ _ _ t,rfl,hc⟩ ⟨rfl,⟨t',rfl⟩,hv⟩)
 | [],_::_,_,_,h,_=>h.elim
 | _::_,[],_,_,h,_=>h.elim
theorem Z5 {d:Addr}:∀ {ps:List (Sem Value×Sem Value)} {abs:List (Str×Str)} {acc:List (Str×Value)} {s:Shared} {Q:PUnit→Shared→Prop},PS (model prog w) ps abs→s.heap.DictOf (strKind prog w) d acc→acc.length + abs.length≤sizeLine →
  (∀ h' n kvs,VS abs kvs→h'.DictOf (strKind prog w) d (merged acc kvs)→Heap.SameBut d s.heap h'→Q PUnit.unit { s with heap:=h',toks:=n }) →
  wpAny (model prog w) A (forIn ps PUnit.unit fun (x:Sem Value×Sem Value) (_:PUnit)=>(do let kv ← x.1; let vv ← holding [kv] x.2; holding [kv,vv] (dictSet d kv vv); pure (ForInStep.yield PUnit.unit):Sem (ForInStep PUnit))) Q E s
 | [],[],acc,s,Q,_,hm,_,h=>by
  rw [List.forIn_nil]
  exact wpAny_pure (h s.heap s.toks [] trivial (by simpa [merged] using hm) (Heap.SameBut.refl _ _))
 | p::ps,ab::abs,acc,s,Q,hp,hm,hsz,h=>by
  rw [List.length_cons] at hsz
  rw [List.forIn_cons]
  refine wpAny_bind (wpAny_bind (hp.1 _ _ _ _ fun t n=>wpAny_bind (wpAny_holding (hp.2.1 _ _ _ _ fun t' n'=>?_))))
  refine wpAny_bind (wpAny_holding (wpAny_dictSet_pairs (s:={ s with toks:=n' }) (hsz:=by lia) (strKind_is _ _ _ t) hm fun h₁ hm₁ hs₁=>wpAny_pure ?_))
  refine Z5 hp.2.2 hm₁ (by have e:=stored_length_le acc ab.1 (.str ab.2 t'); lia) fun h' n'' kvs hv hd hs=>?_
  exact h h' n'' ((ab.1,.str ab.2 t')::kvs) ⟨rfl,⟨t',rfl⟩,hv⟩ (by simpa [merged] using hd) (hs₁.trans hs)
 | [],_::_,_,_,_,h,_,_,_=>h.elim
 | _::_,[],_,_,_,h,_,_,_=>h.elim
theorem Ye {ps:List (Sem Value×Sem Value)} {abs:List (Str×Str)} {Q:Addr→Shared→Prop} (hp:PS (model prog w) ps abs) (nd:(abs.map (·.1)).Nodup) (hl:abs.length≤100)
  (h:∀ h' n kvs,VS abs kvs→h'.DictOf (strKind prog w) s.heap.objs.size kvs→Heap.SameBut s.heap.objs.size (s.heap.push emptyDict) h'→Q s.heap.objs.size { s with heap:=h',toks:=n }):wpAny (model prog w) A (subDict ps) Q E s:=by
 have mg:∀ {kvs:List (Str×Value)},VS abs kvs→merged [] kvs=kvs:=fun hv=>merged_nil_of_nodup _ (by rw [hv.keys]; exact nd)
 by_cases h15:ps.length≤15
 ·refine wpAny_subDict (knd:=strKind prog w) h15 (Vm hp fun vs kvs n hc hv=>⟨kvs,hc,.new _,fun h' hd hs=>?_⟩)
  rw [mg hv] at hd
  exact h h' _ kvs hv hd hs
 ·unfold subDict
  refine wpAny_bind (wpAny_alloc ?_)
  refine wpAny_bind (wpAny_holding ?_)
  rw [if_neg h15]
  refine wpAny_bind (wpAny_rule ?_)
  refine wpAny_bind (Z5 hp (.new _) (by rw [sizeLine_eq,List.length_nil]; lia) fun h' n kvs hv hd hs=>?_)
  rw [mg hv] at hd
  exact wpAny_pure (wpAny_pure (h h' n kvs hv hd hs))
inductive LDs (prog:Program) (w:World) (s:Shared) (ps:List (Sem Value×Sem Value)) (abs:List (Str×Str)) (rest:List (Option (Sem Value)×Sem Value)) (b:Option Addr×List (Sem Value×Sem Value)) (s':Shared):Prop
 | one (run rest':List (Sem Value×Sem Value)) (hr:rest=rest'.map fun p=>(some p.1,p.2)) (hb:b=(none,run)) (hrun:run++rest'=ps) (h17:run.length < 17) (hs:s'=s)
 | two (run rest':List (Sem Value×Sem Value)) (hr:rest=rest'.map fun p=>(some p.1,p.2)) (hb:b=(some s.heap.objs.size,run)) (hrun:run++rest'=ps.drop 17) (h':Heap) (n:Nat) (kvs:List (Str×Value))
  (hv:VS (abs.take 17) kvs) (hd:h'.DictOf (strKind prog w) s.heap.objs.size kvs) (hk:Heap.SameBut s.heap.objs.size (s.heap.push emptyDict) h') (hs:s'={ s with heap:=h',toks:=n })
theorem jN {ps:List (Sem Value×Sem Value)} {abs:List (Str×Str)} {Q:Value→Shared→Prop} (hp:PS (model prog w) ps abs) (nd:(abs.map (·.1)).Nodup) (hn:17 < ps.length∧ps.length < 34) (hS:∃ o,s.heap.get? sysModules=some o)
  (h:∀ h' n kvs,VS abs kvs→h'.DictOf (strKind prog w) s.heap.objs.size kvs→(∀ b o,s.heap.get? b=some o→h'.get? b=some o)→Q (.ref s.heap.objs.size) { s with heap:=h',toks:=n }) :
  wpAny (model prog w) A (dictDisplay (ps.map fun p=>(some p.1,p.2))) Q E s:=by
 have hl:=hp.len
 unfold dictDisplay
 dsimp only
 refine wpAny_bind ?_
 refine wpAny_forIn_list _ (fun rest b s'=>LDs prog w s ps abs rest b s') _ ?_ ?_ _ _ (.one [] ps rfl rfl rfl (Nat.zero_lt_succ _) rfl)
 ·intro x rest b s' z
  cases z with
  | one run rest' hr hb hrun h17 hs =>
   subst hb hs
   induction rest' using List.casesOn with
   | nil=>cases hr
   | cons p r' =>
    obtain ⟨hx,hr2⟩:=List.cons.inj hr
    subst hx hr2
    dsimp only
    by_cases c:run.length=16
    ·rw [if_pos (by simp [c]),if_neg (by simp)]
     have e0:run++p::r'=(run++[p])++r':=(List.append_cons run p r')
     have l17:(run++[p]).length=17:=by rw [List.length_append,c]; rfl
     have e1:ps.take 17=run++[p]:=by rw [← hrun,e0,List.take_left' l17]
     have e2:ps.drop 17=r':=by rw [← hrun,e0,List.drop_left' l17]
     have hp1:=(hp.take (n:=17)).1
     rw [e1] at hp1
     refine wpAny_bind (wpAny_bind (Ye hp1 (by rw [List.map_take]; exact nd.sublist (List.take_sublist ..)) (by rw [List.length_take]; lia) fun h' n kvs hv hd hs=>?_))
     exact wpAny_pure (wpAny_pure (.two [] r' rfl rfl e2.symm h' n kvs hv hd hs rfl))
    ·rw [if_neg (by simp; lia)]
     exact wpAny_pure (.one (run++[(p.1,p.2)]) r' rfl rfl ((List.append_cons run p r').symm.trans hrun) (by rw [List.length_append]; show run.length + 1 < 17; lia) rfl)
  | two run rest' hr hb hrun h' n kvs hv hd hk hs =>
   subst hb
   induction rest' using List.casesOn with
   | nil=>cases hr
   | cons p r' =>
    obtain ⟨hx,hr2⟩:=List.cons.inj hr
    subst hx hr2
    dsimp only
    have:=congrArg List.length hrun
    rw [List.length_append,List.length_cons,List.length_drop] at this
    rw [if_neg (by simp; lia)]
    exact wpAny_pure (.two (run++[(p.1,p.2)]) r' rfl rfl ((List.append_cons run p r').symm.trans hrun) h' n kvs hv hd hk hs)
 ·intro b s' z
  cases z with
  | one run rest' hr hb hrun h17 hs =>
   induction rest' using List.casesOn with
   | cons p r'=>cases hr
   | nil=>rw [List.append_nil] at hrun; rw [hrun] at h17; lia
  | two run rest' hr hb hrun h' n kvs hv hd hs hz =>
   subst hb hz
   induction rest' using List.casesOn with
   | cons p r'=>cases hr
   | nil =>
    rw [List.append_nil] at hrun
    have hlen:run.length=ps.length - 17:=by rw [hrun,List.length_drop]
    dsimp only
    rw [if_neg (by rw [List.isEmpty_iff]; intro z; rw [z] at hlen; simp at hlen; lia)]
    have hp2:=(hp.take (n:=17)).2
    rw [← hrun] at hp2
    have f0:s.heap.get? s.heap.objs.size=none:=zW
    have f1:h'.get? h'.objs.size=none:=zW
    have k1:∀ b o,s.heap.get? b=some o→h'.get? b=some o:=fun b o e=>(hs.2 b (fun z=>by rw [z,f0] at e; cases e)).trans (Heap.get?_push_of_some _ e)
    have hne:s.heap.objs.size≠h'.objs.size:=fun z=>by
     obtain ⟨o,_,_,ho,_⟩:=hd
     rw [z,f1] at ho; cases ho
    have hsys:(h'.objs.size == sysModules)=false:=by
     obtain ⟨o,ho⟩:=hS
     refine beq_eq_false_iff_ne.mpr fun z=>?_
     have:=k1 _ _ ho
     rw [← z,f1] at this; cases this
    have ln:kvs.length=17:=by rw [hv.len,List.length_take]; lia
    refine wpAny_bind (wpAny_bind (wpAny_holding (Ye (s:={ s with heap:=h',toks:=n }) hp2 (by rw [List.map_drop]; exact nd.sublist (List.drop_sublist ..)) (by rw [List.length_drop]; lia) fun h2 n2 kvs2 hv2 hd2 hs2=>?_)))
    have ln2:kvs2.length=abs.length - 17:=by rw [hv2.len,List.length_drop]
    refine wpAny_bind (wpAny_onRaise (wpAny_holding (Zm (knd:=strKind prog w) (s:={ s with heap:=h2,toks:=n2 }) hne hsys (fun z=>by rw [z] at ln; cases ln) ((hd.push emptyDict).sameBut hs2 hne) hd2 (fun h3 hd3 hs3=>?_) (by rw [sizeLine_eq]; lia))))
    have hva:=hv.app hv2
    rw [List.take_append_drop] at hva
    rw [merged_append_of_fresh _ _ (by rw [hva.keys]; exact nd)] at hd3
    refine wpAny_pure (wpAny_pure (h h3 n2 _ hva hd3 fun b o e=>?_))
    have nb:b≠s.heap.objs.size:=fun z=>by rw [z,f0] at e; cases e
    have nb2:b≠h'.objs.size:=fun z=>by have:=k1 b o e; rw [z,f1] at this; cases this
    exact (hs3.2 b nb).trans ((hs2.2 b nb2).trans (Heap.get?_push_of_some _ (k1 b o e)))
end
end Mine
end
section
namespace Mine
open PySem PySem.W PyProof.Rows PySem.Calls
open Sem (wp)
inductive PR (c:Cx) (h:Heap) (β:Bt):List (Value×Value)→List AV→Prop
 | nil:PR c h β [] []
 | cons {cs:List Nat} {t:Tok} {x:AV} {v:Value} {ps:List (Value×Value)} {xs:List AV}:VR c h β x v→PR c h β ps xs→PR c h β ((.str (zh cs) t,v)::ps) (.str cs::x::xs)
noncomputable abbrev zmJ:Str→AV:=fun x=>AV.str x.cps.toList
theorem qO {K:Type} [DecidableEq K] {kvs:List (K×Value)} (k:K) (v:Value) (h:(kvs.map (·.1)).Nodup):((stored kvs k v).map (·.1)).Nodup:=by
 unfold stored
 by_cases q:(kvs.any fun kv=>decide (kv.1=k))=true
 ·rw [if_pos q,List.map_map]
  have:kvs.map ((fun kv:K×Value=>kv.1) ∘ fun kv=>if kv.1=k then (kv.1,v) else kv)=kvs.map (·.1):=List.map_congr_left fun x _=>by
   show (if x.1=k then (x.1,v) else x).1=x.1
   by_cases e:x.1=k
   ·rw [if_pos e]
   ·rw [if_neg e]
  rw [this]; exact h
 ·rw [if_neg q,List.map_append,List.nodup_append]
  refine ⟨h,List.nodup_cons.mpr ⟨nofun,List.nodup_nil⟩,fun a ha b hb e=>?_⟩
  obtain ⟨x,hx,e2⟩:=List.mem_map.mp ha
  exact q (List.any_eq_true.mpr ⟨x,hx,decide_eq_true (e2.trans (e.trans (List.mem_singleton.mp hb)))⟩)
inductive Mg (c:Cx) (h:Heap) (β:Bt) (ps:List (Value×Value)) (kd:Option KK) (acc:List (Str×Value)):AO→Prop
 | mk (kvs:List (Str×Value)) (kd':Option KK) (es':List (AV×AV)) (h1:Carries (strKind c.prog c.w) ps kvs) (h3:ps=[]→kd'=kd) (h4:ps≠[]→kd'=some .str) (h5:DR c zmJ h β es' (merged acc kvs)):Mg c h β ps kd acc (.dict kd' es')
theorem Zt {c:Cx} {h:Heap} {β:Bt} {ps:List (Value×Value)} {ws:List AV} (r:PR c h β ps ws):∀ {kd:Option KK} {es:List (AV×AV)} {acc:List (Str×Value)} {o:AO},YV ws kd es=some o→(kd=none∨kd=some .str) →
  DR c zmJ h β es acc→(acc.map (·.1)).Nodup→Mg c h β ps kd acc o:=by
 induction r with
 | nil=>exact fun e _ d _=>oe (P:=fun o=>Mg c h β [] _ _ o) e (.mk [] _ _ trivial (fun _=>rfl) (fun h=>absurd rfl h) d)
 | @cons cs t x v ps xs hv r ih =>
  intro kd es acc o e hk d nd
  refine ZF e fun kd1 es1 e1 e2=>ob e1 fun a ha e1=>og e1 fun hc e1=>?_
  have ea:a=.str:=ot ha fun _ e=>(Option.some.inj e).symm
  subst ea
  cases e1
  have M:=ih (acc:=stored acc (zh cs) v) e2 (.inr rfl) (d.put Zh (k:=zh cs) hv nd) (qO _ _ nd)
  cases M with
  | mk kvs kd' es' h1 h3 h4 h5=>exact .mk ((zh cs,v)::kvs) kd' es' ⟨strKind_is _ _ _ t,rfl,h1⟩ nofun (fun _=>by cases ps with | nil=>exact h3 rfl | cons=>exact h4 nofun) h5
section
variable {k:Kt} {A:Around} {s:Shared} {β:Bt} {H H' H₁:AH} {ρ:Loc}
inductive zby (c:Cx) (s:Shared) (β:Bt) (H':AH) (xs:List AV) (ps:List (Value×Value)) (s':Shared):Prop
 | mk (β':Bt) (x:Ext c none s s' β β' H') (r:PR c s'.heap β' ps xs)
noncomputable def SPs (k:Kt) (xs:List X):Prop:=∀ ks vs pos,zaJ k.N k.lv k.env.kindOf xs ks vs=true→∀ A s β H ρ p,RN k.n A→LR k.c k.lv k.env.locals s.heap β ρ→Rel k.c β H s.heap→KB k.G k.Cf xs ρ H=some p →
 wpAny (model k.c.prog k.c.w) A (evalPairs (pairTrees ks vs k.env pos)) (zby k.c s β p.2 p.1) No s
noncomputable def SQs (k:Kt) (xs:List X):Prop:=∀ ks vs pos,zkO k.N k.lv k.env.kindOf xs ks vs=true→∃ v vs',vs=v::vs'∧∀ A s β H ρ p cs t,RN k.n A→LR k.c k.lv k.env.locals s.heap β ρ→Rel k.c β H s.heap→KB k.G k.Cf xs ρ H=some p →
 wpAny (model k.c.prog k.c.w) A (eval v k.env) (fun u s₁=>wpAny (model k.c.prog k.c.w) A (evalPairs (pairTrees ks vs' k.env pos)) (fun ps s'=>zby k.c s β p.2 (.str cs::p.1) ((.str (zh cs) t,u)::ps) s') No s₁) No s
theorem emp {α:Type} {l:List α} (h:l.isEmpty=true):l=[]:=by
 induction l using List.casesOn with
 | nil=>rfl
 | cons=>exact no h
theorem zhR:SPs k []:=fun ks vs pos ok A s β H ρ p hA L R ev=>by
 have a:=emp (tt ok).1
 have b:=emp (tt ok).2
 cases a
 cases b
 exact oe (P:=fun p=>wpAny _ A _ (zby k.c s β p.2 p.1) No s) ev (pairTrees_nil_walk ⟨β,.refl R,.nil⟩)
theorem zhM:SQs k []:=fun _ _ _ ok=>no ok
theorem zfd {x:X} {xs:List X} (hx:SE k x) (h:SPs k xs):SQs k (x::xs):=fun ks vs pos ok=>by
 induction vs using List.casesOn with
 | nil=>exact no ok
 | cons v vs =>
  exact ⟨v,vs,rfl,fun A s β H ρ p cs t hA L R ev=>hx.use (tt ok).1 hA L R ev fun q u s₁ β₁ x₁ r₁ ev=>om (P:=fun p=>wpAny _ A _ (fun ps s'=>zby k.c s β p.2 (.str cs::p.1) ((.str (zh cs) t,u)::ps) s') No s₁) ev fun q2 h3 =>
   wpAny_mono (h ks vs pos (tt ok).2 A s₁ β₁ _ ρ q2 hA (L.ext x₁) x₁.rel h3) (fun ps s₂ z=>zby.casesOn z fun β₂ x₂ r₂=>⟨β₂,x₁.trans x₂,.cons (x₂.vr r₁) r₂⟩) fun _ _ e=>e⟩
theorem zd9 {x:X} (h:zcP x=true):∃ cs,x=.str cs:=by
 unfold zcP at h
 cases e:Kg x with
 | none=>rw [e] at h; exact no h
 | some cs=>exact ⟨cs,Vx e⟩
theorem iPs {N:Nm} {lv:List Str} {kd:Kd} {x:X} {xs:List X} {ks:List (Option Expr)} {vs:List Expr} {P:List (Option Expr)→Prop} (h:zaJ N lv kd (x::xs) ks vs=true) (nx:∀ y ks,zcP x=true→okE N lv kd x y=true→zkO N lv kd xs ks vs=true→P (some y::ks)):P ks:=by
 match ks,h with
 | some y::ks,h=>exact nx y ks (tt (tt h).1).1 (tt (tt h).1).2 (tt h).2
 | [],h=>exact no h
 | none::_,h=>exact no h
theorem zf0 {x:X} {xs:List X} (hx:SE k x) (h:SQs k xs):SPs k (x::xs):=fun ks vs pos ok A s β H ρ p hA L R ev=>by
 refine iPs (P:=fun ks=>wpAny _ A (evalPairs (pairTrees ks vs k.env pos)) _ _ s) ok fun y ks o1 o2 o3=>?_
 obtain ⟨v,vs',rfl,hq⟩:=h ks vs pos o3
 obtain ⟨cs,rfl⟩:=zd9 o1
 refine om (o:=KB k.G k.Cf xs ρ H) (f:=fun q:List AV×AH=>(AV.str cs::q.1,q.2)) (P:=fun p=>wpAny _ A _ (zby k.c s β p.2 p.1) No s) ev fun q h3=>pairTrees_cons_walk (hx.one o2 hA L R (p:=(.str cs,H)) rfl fun u s₁ β₁ x₁ r₁=>?_)
 exact r₁.strI fun t=>wpAny_mono (hq A s₁ β₁ H ρ q cs t hA (L.ext x₁) x₁.rel h3) (fun u s₂ h=>wpAny_mono h (fun ps s₃ z=>zby.casesOn z fun β₃ x₃ r₃=>⟨β₃,x₁.trans x₃,r₃⟩) fun _ _ e=>e) fun _ _ e=>e
theorem Zd {N:Nm} {lv:List Str} {kd:Kd}:∀ (n:Nat) {xs:List X} {ks:List (Option Expr)} {vs:List Expr},xs.length≤n→zaJ N lv kd xs ks vs=true→ks.all (·.isSome)=true∧ks.length=vs.length∧xs.length=2 * ks.length
 | _,[],ks,vs,_,ok=>by
  obtain ⟨a,b⟩:=tt ok
  cases emp a
  cases emp b
  exact ⟨rfl,rfl,rfl⟩
 | 0,_::_,_,_,hn,_=>absurd hn (Nat.not_succ_le_zero _)
 | n + 1,x::xs,ks,vs,hn,ok=>by
  refine iPs (P:=fun ks=>ks.all (·.isSome)=true∧ks.length=vs.length∧(x::xs).length=2 * ks.length) ok fun y ks _ _ o3=>?_
  induction xs using List.casesOn with
  | nil=>exact no o3
  | cons x' xs =>
   induction vs using List.casesOn with
   | nil=>exact no o3
   | cons v vs =>
    obtain ⟨a,b,d⟩:=Zd n (Nat.le_of_succ_le (Nat.le_of_succ_le_succ hn)) (tt o3).2
    exact ⟨a,congrArg (· + 1) b,by show xs.length + 1 + 1=2 * (ks.length + 1); lia⟩
theorem zeE (n:Nat):∀ {es:List X},es.length≤n→es.length=2 * (yA es).length→es=(yA es).flatMap fun p=>[.str p.1,.str p.2]:=by
 induction n with
 | zero=>intro es h _; cases es with | nil=>rfl | cons=>exact absurd h (Nat.not_succ_le_zero _)
 | succ n ih =>
  intro es hn h
  induction es using List.casesOn with
  | nil=>rfl
  | cons x r =>
   induction r using List.casesOn with
   | nil=>exact Nat.noConfusion (h:1=0)
   | cons y r =>
    cases ex:Kg x with
    | none=>rw [show yA (x::y::r)=[] by rw [yA,ex]] at h; exact Nat.noConfusion h
    | some a =>
     cases ey:Kg y with
     | none=>rw [show yA (x::y::r)=[] by rw [yA,ex]; dsimp only; rw [ey]] at h; exact Nat.noConfusion h
     | some b =>
      have e:yA (x::y::r)=(a,b)::yA r:=by rw [yA,ex]; dsimp only; rw [ey]
      rw [e] at h ⊢
      cases Vx ex
      cases Vx ey
      exact congrArg (fun l=>X.str a::X.str b::l) (ih (Nat.le_of_succ_le (Nat.le_of_succ_le_succ hn)) (Nat.add_right_cancel (m:=2) h))
theorem zgo {cs:List Nat} {e:Expr} (ok:okE k.N k.lv k.env.kindOf (.str cs) e=true) {M:Model}:zl1 M (eval e k.env) (zh cs):=by
 refine Jj ok fun c _ _ h=>?_
 cases c with
 | str d =>
  cases (eq_of_beq h:d=zh cs)
  exact fun A E s Q h=>Constant_str (h _ _)
 | _=>exact no h
theorem zdg {M:Model} {pos:Pos}:∀ {ds:List (List Nat×List Nat)} {ks:List (Option Expr)} {vs:List Expr},zaJ k.N k.lv k.env.kindOf (ds.flatMap fun p=>[.str p.1,.str p.2]) ks vs=true →
  PS M (pairTrees ks vs k.env pos) (ds.map fun p=>(zh p.1,zh p.2))
 | [],ks,vs,ok=>by
  obtain ⟨a,b⟩:=tt ok
  cases emp a
  cases emp b
  trivial
 | (a,b)::ds,ks,vs,ok=>by
  have ok:zaJ k.N k.lv k.env.kindOf (.str a::.str b::ds.flatMap fun p=>[.str p.1,.str p.2]) ks vs=true:=ok
  refine iPs (P:=fun ks=>PS M (pairTrees ks vs k.env pos) _) ok fun y ks _ o2 o3=>?_
  induction vs using List.casesOn with
  | nil=>exact no o3
  | cons v vs=>exact ⟨zgo o2,fun A E s Q h=>wpAny_bind (zgo (tt o3).1 A E s _ fun t n=>wpAny_bind (wpAny_standAt (wpAny_pure (h t n)))),zdg (tt o3).2⟩
theorem zdi {G:Kb} {Cf:zi} {ρ:Loc} {H:AH}:∀ {ds:List (List Nat×List Nat)} {p:List AV×AH},KB G Cf (ds.flatMap fun p=>[.str p.1,.str p.2]) ρ H=some p→p=(ds.flatMap fun p=>[.str p.1,.str p.2],H)
 | [],_,e=>(Option.some.inj e).symm
 | (a,b)::ds,p,e=>by
  have e:((KB G Cf (ds.flatMap fun p=>[.str p.1,.str p.2]) ρ H).map fun q=>(AV.str b::q.1,q.2)).map (fun q=>(AV.str a::q.1,q.2))=some p:=e
  refine om (P:=fun p=>p=_) e fun q h=>?_
  refine om (P:=fun q=>(AV.str a::q.1,q.2)=_) h fun q h=>?_
  rw [zdi h]; rfl
theorem zcF {c:Cx} {h:Heap} {β:Bt}:∀ {ds:List (List Nat×List Nat)} {kvs:List (Str×Value)},VS (ds.map fun p=>(zh p.1,zh p.2)) kvs→PR c h β (kvs.map fun kv=>(.str kv.1 0,kv.2)) (ds.flatMap fun p=>[.str p.1,.str p.2])
 | [],[],_=>.nil
 | (a,b)::ds,(x,v)::kvs,hv=>by
  obtain ⟨h1,⟨t,h2⟩,h3⟩:=hv
  dsimp only at h1 h2
  subst h1 h2
  rw [List.flatMap_cons]
  exact .cons (.str b t) (zcF h3)
 | [],_::_,h=>h.elim
 | _::_,[],h=>h.elim
theorem VG {prog:Program} {w:World}:∀ {kvs kvs':List (Str×Value)},Carries (strKind prog w) (kvs.map fun kv=>(.str kv.1 0,kv.2)) kvs'→kvs'=kvs
 | [],[],_=>rfl
 | (x,v)::kvs,(y,u)::kvs',h=>by
  obtain ⟨h1,h2,h3⟩:=h
  have:y=x:=(strKind prog w).inj _ _ _ h1 (strKind_is _ _ _ 0)
  dsimp only at h2
  subst this h2
  rw [VG h3]
 | [],_::_,h=>h.elim
 | _::_,[],h=>h.elim
theorem zhL (K:k.Ok) {xs:List X} (oL:zfH xs=true) {ks:List (Option Expr)} {vs:List Expr} {pos:Pos} (ok:zaJ k.N k.lv k.env.kindOf xs ks vs=true) (R:Rel k.c β H s.heap) {ws:List AV} {o:AO} (h1:KB k.G k.Cf xs ρ H=some (ws,H₁)) (h3:YV ws none []=some o) :
  wpAny (model k.c.prog k.c.w) A (eval (.Dict ks vs pos) k.env) (Res k.c s β (H₁++[o]) (.obj H₁.length)) No s:=by
 have q1:=of_decide_eq_true (tt (tt oL).1).1
 have q2:=of_decide_eq_true (tt (tt oL).1).2
 have q3:=of_decide_eq_true (tt oL).2
 obtain ⟨l1,l2,l3⟩:=Zd xs.length (Nat.le_refl _) ok
 have fl:=zeE _ (Nat.le_refl _) q1
 generalize yA xs=ds at q1 q2 q3 fl
 subst fl
 cases zdi h1
 have hps:PS (model k.c.prog k.c.w) (pairTrees ks vs k.env pos) (ds.map fun p=>(zh p.1,zh p.2)):=zdg ok
 have nd:((ds.map fun p=>(zh p.1,zh p.2)).map (·.1)).Nodup:=by
  have e:(ds.map fun p=>(zh p.1,zh p.2)).map (·.1)=(ds.map (·.1)).map zh:=by rw [List.map_map,List.map_map]; rfl
  rw [e]
  exact List.Pairwise.map _ (fun a b h z=>h (KQ z)) q2
 obtain ⟨oS,hS⟩:=K.base.toBs.sys
 rw [arm_eval_Dict,zip_pairTrees ks vs k.env pos l1 l2]
 refine wpAny_bind (wpAny_standAt (jN hps nd (by have:=hps.len; rw [List.length_map] at this; lia) ⟨oS,R.base _ _ hS⟩ fun h' n kvs hv hd kp=>?_))
 have M:=Zt (zcF (c:=k.c) (h:=h') (β:=β++[(s.heap.objs.size,none)]) hv) (kd:=none) (es:=[]) (acc:=[]) h3 (.inl rfl) .nil List.nodup_nil
 cases M with
 | mk kvs' kd' es' c1 c3 c4 c5 =>
 obtain rfl:=VG c1
 have hne:(kvs'.map fun kv=>((.str kv.1 0,kv.2):Value×Value))≠[]:=fun z=>by
  have e:=congrArg List.length z
  rw [List.length_map,hv.len,List.length_map] at e
  exact absurd q3.1 (e ▸ (by decide))
 cases c4 hne
 rw [merged_nil_of_nodup _ (by rw [hv.keys]; exact nd)] at c5
 exact ⟨β++[(s.heap.objs.size,none)],Ext.new R kp (fun b hb=>zjG hb ▸ zW) (zaH _) (Wu.mk hd c5),.obj (KC β _ R.len)⟩
theorem zcC (R:Rel k.c β H s.heap) {β':Bt} {s':Shared} {h':Heap} {t:Nat} {o:AO} {H₁:AH} (x:Ext k.c none { s with heap:=s.heap.push emptyDict } s' β β' H₁) (hs:Heap.SameBut s.heap.objs.size s'.heap h')
  (ho:OAt k.c h' (β'++[(s.heap.objs.size,none)]) (s.heap.objs.size,none) o) (n0:s.heap.objs.size∉yp β') (d0:s'.heap.get? s.heap.objs.size=some emptyDict) :
  Res k.c s β (H₁++[o]) (.obj H₁.length) (.ref s.heap.objs.size) { s' with heap:=h',toks:=t } :=
 have x₀:Ext k.c none s { s with heap:=s.heap.push emptyDict } β β H:=.grow R fun b o e=>Heap.get?_push_of_some _ e
 ⟨β'++[(s.heap.objs.size,none)],(x₀.trans x).add R.base (fun b hb=>zjG hb ▸ ⟨n0,zW⟩) (zaH _) (YG d0 rfl hs) (fun b y hb e=>Jd hs b y (fun z=>hb (z ▸ List.mem_singleton_self _)) e) ho,.obj (KC β' _ x.rel.len)⟩
theorem zde (R:Rel k.c β H s.heap) {β':Bt} {s':Shared} {H'':AH} (x:Ext k.c none { s with heap:=s.heap.push emptyDict } s' β β' H''):s.heap.objs.size∉yp β'∧s'.heap.get? s.heap.objs.size=some emptyDict :=
 have n0:s.heap.objs.size∉yp β:=fun hb=>(R.there hb).elim fun y hy=>nn (zW.symm.trans hy.1)
 have hd0:(s.heap.push emptyDict).get? s.heap.objs.size=some emptyDict:=Heap.get?_push_size _ rfl
 ⟨fun hb=>nn ((x.fresh _ hb n0).2.symm.trans hd0),x.keep _ _ nofun n0 hd0⟩
theorem zm0 (K:k.Ok) {xs:List X} (h:SPs k xs):SE k (.dic xs):=fun e ok A s β H ρ p hA L R ev=>by
 refine zdE ok fun ks vs pos ok=>?_
 refine ob ev fun t h1 h2=>om (P:=fun p=>wpAny (model k.c.prog k.c.w) A (eval (.Dict ks vs pos) k.env) (Res k.c s β p.2 p.1) No s) h2 fun o h3=>?_
 have okp:=(tt ok).2
 cases o15:decide (ks.length≤15) with
 | false =>
  have oL:=(tt ok).1
  rw [o15] at oL
  exact zhL K oL okp R h1 h3
 | true =>
  obtain ⟨l1,l2,l3⟩:=Zd xs.length (Nat.le_refl _) okp
  have x₀:Ext k.c none s { s with heap:=s.heap.push emptyDict } β β H:=.grow R fun b o e=>Heap.get?_push_of_some _ e
  have hd0:(s.heap.push emptyDict).get? s.heap.objs.size=some emptyDict:=Heap.get?_push_size _ rfl
  by_cases hk:ks=[]
  ·subst hk
   cases List.length_eq_zero_iff.mp l2.symm
   cases List.length_eq_zero_iff.mp l3
   cases h1
   cases h3
   exact wpAny_Dict_empty (zcC R (s':={ s with heap:=s.heap.push emptyDict }) (t:=s.toks) (.refl x₀.rel) (.refl _ _) (zga.mk rfl hd0) (zde R (.refl x₀.rel)).1 hd0)
  ·refine wpAny_Dict_walk (knd:=strKind k.c.prog k.c.w) l1 l2 hk (of_decide_eq_true o15) ?_
   refine wpAny_mono (h ks vs pos okp A _ β H ρ t hA (L.ext x₀) x₀.rel h1) (fun ps s₁ z=>?_) fun _ _ e=>e
   obtain ⟨β₁,x₁,r₁⟩:=z
   have f:=zde R x₁
   have hps:ps≠[]:=fun z=>by
    subst z
    have e0:t.1.length=xs.length:=JX h1
    generalize t.1=ws at r₁ e0
    cases r₁
    exact hk (List.length_eq_zero_iff.mp ((Nat.mul_eq_zero.mp (e0.trans l3).symm).resolve_left (by decide)))
   have M:=Zt r₁ (kd:=none) (es:=[]) (acc:=[]) h3 (.inl rfl) .nil List.nodup_nil
   cases M with
   | mk kvs kd' es' c1 c3 c4 c5 =>
   cases c4 hps
   exact ⟨kvs,c1,J6 f.2,fun h' hd' hs'=>zcC R x₁ hs' (Wu.mk hd' (c5.mono (YG f.2 rfl hs') (.snoc _ _))) f.1 f.2⟩
end
mutual
theorem sE {k:Kt} (K:k.Ok):∀ x:X,SE k x
 | .none=>ziS
 | .bool b=>zhF b
 | .int i=>zl8 i
 | .str cs=>zmz cs
 | .loc i=>zke K i
 | .glb i=>zlU K i
 | .band es=>ziT (zoi K es)
 | .bor es=>zl0 (sOr K es)
 | .bin _ a b=>zkG (sE K a) (sE K b)
 | .neg a=>znb (sE K a)
 | .bnot a=>zi8 (sE K a)
 | .cmp a _ bs=>zkq (sE K a) (zck K bs)
 | .call _ args=>zil K (sEs K args)
 | .new _ args=>zlh K (sEs K args)
 | .meth o _ args=>ziH K (sE K o) (sEs K args)
 | .append o a=>zen (sE K o) (sE K a)
 | .pop o=>zl2 (sE K o)
 | .get1 o a=>ziE K (sE K o) (sE K a)
 | .get2 o a b=>ziW K (sE K o) (sE K a) (sE K b)
 | .attr o _=>zir K (sE K o)
 | .idx o i=>zmY K (sE K o) (sE K i)
 | .sliceAll o=>zas (sE K o)
 | .sliceTo o _=>zbA (sE K o)
 | .sliceFrom o _=>jq (sE K o)
 | .tup es=>zlr (sEs K es)
 | .lst es=>zlq (sEs K es)
 | .dic es=>zm0 K (sPs K es)
 | .len a=>zmb K (sE K a)
 | .isB a=>zkv K (sE K a)
 | .range a=>fun _ ok=>no ok
 | .tuple a=>zgZ K (sE K a)
 | .max2 a b=>zms K (sE K a) (sE K b)
 | .min2 a b=>zmN K (sE K a) (sE K b)
 | .bad=>fun _ _ _ _ _ _ _ _ _ _ _ ev=>nn ev
theorem sEs {k:Kt} (K:k.Ok):∀ xs:List X,SEs k xs
 | []=>zjd
 | x::xs=>zgL (sE K x) (sEs K xs)
theorem zoi {k:Kt} (K:k.Ok):∀ xs:List X,zgU k xs
 | []=>zfn
 | x::xs=>zem (sE K x) (zoi K xs)
theorem sOr {k:Kt} (K:k.Ok):∀ xs:List X,SOr k xs
 | []=>zhH
 | x::xs=>zgl (sE K x) (sOr K xs)
theorem zck {k:Kt} (K:k.Ok):∀ xs:List X,W2 k xs
 | []=>zb9
 | x::xs=>za3 K (sE K x) (zck K xs)
theorem sPs {k:Kt} (K:k.Ok):∀ xs:List X,SPs k xs
 | []=>zhR
 | x::xs=>zf0 (sE K x) (sQs K xs)
theorem sQs {k:Kt} (K:k.Ok):∀ xs:List X,SQs k xs
 | []=>zhM
 | x::xs=>zfd (sE K x) (sPs K xs)
end
theorem zD {k:Kt} {x:X} (h:∀ ρ H,tst k.G k.Cf x ρ H=none):ST k x:=fun _ _ _ _ _ H ρ _ _ _ _ ev=>nomatch (h ρ H).symm.trans ev
mutual
theorem sT {k:Kt} (K:k.Ok):∀ x:X,ST k x
 | .bnot a=>zh4 (sT K a)
 | .band es=>zhG (zjJ K es)
 | .bor es=>zm6 (zjS K es)
 | .cmp a _ bs=>zl3 (sE K a) (zck K bs)
 | .loc _=>zkR (sE K _)
 | .bin ..=>zk4 (sE K _)
 | .call ..=>ziy (sE K _)
 | .isB _=>zmZ (sE K _)
 | .bad=>zD fun _ _=>rfl
 | .none=>zD fun _ _=>rfl
 | .bool _=>zD fun _ _=>rfl
 | .int _=>zD fun _ _=>rfl
 | .str _=>zD fun _ _=>rfl
 | .glb _=>zD fun _ _=>rfl
 | .neg _=>zD fun _ _=>rfl
 | .new ..=>zD fun _ _=>rfl
 | .meth ..=>zD fun _ _=>rfl
 | .append ..=>zD fun _ _=>rfl
 | .pop _=>zD fun _ _=>rfl
 | .get1 ..=>zD fun _ _=>rfl
 | .get2 ..=>zD fun _ _=>rfl
 | .attr ..=>zD fun _ _=>rfl
 | .idx ..=>zD fun _ _=>rfl
 | .sliceAll _=>zD fun _ _=>rfl
 | .sliceTo ..=>zD fun _ _=>rfl
 | .sliceFrom ..=>zD fun _ _=>rfl
 | .tup _=>zD fun _ _=>rfl
 | .lst _=>zD fun _ _=>rfl
 | .dic _=>zD fun _ _=>rfl
 | .len _=>zD fun _ _=>rfl
 | .range _=>zD fun _ _=>rfl
 | .tuple _=>zD fun _ _=>rfl
 | .max2 ..=>zD fun _ _=>rfl
 | .min2 ..=>zD fun _ _=>rfl
theorem zjJ {k:Kt} (K:k.Ok):∀ xs:List X,zal k xs
 | []=>zjn
 | x::xs=>zgI (sT K x) (zjJ K xs)
theorem zjS {k:Kt} (K:k.Ok):∀ xs:List X,zaQ k xs
 | []=>zi1
 | x::xs=>zgN (sT K x) (zjS K xs)
end
end Mine
end
section
namespace Mine
open PySem PySem.W PyProof.Rows PySem.Calls
open Sem (wp)
structure Wk (c:Cx) (A:Around) (I:Addr) (fp:List Addr) (same:AH→Bool) (xs:List AV) (W:Nat→Shared→Bt→AH→Prop):Prop where
 inI:I∈fp
 isI:∀ i s β H,W i s β H→∃ o,s.heap.get? I=some o∧∀ its n,o.data≠.seq its n
 frame:∀ i s s' β β' H H',W i s β H→Rel c β' H' s'.heap→Pre β β'→zw s.heap s'.heap→(∀ b∈fp,∀ o,s.heap.get? b=some o→s'.heap.get? b=some o)→same H'=true→W i s' β' H'
 item:∀ i s β H x (Q:Option Value→Shared→Prop),W i s β H→Rel c β H s.heap→xs[i]?=some x →
  (∀ u h' t,VR c s.heap β x u→(∀ b o,b≠I→s.heap.get? b=some o→h'.get? b=some o)→(zw s.heap h'→W (i + 1) { s with heap:=h',toks:=t } β H)→Q (some u) { s with heap:=h',toks:=t }) →
  wpAny (model c.prog c.w) A (pyNext (.ref I)) Q No s
 done:∀ s β H (Q:Option Value→Shared→Prop),W xs.length s β H→Rel c β H s.heap→(∀ h' t,(∀ b o,b≠I→s.heap.get? b=some o→h'.get? b=some o)→Q none { s with heap:=h',toks:=t }) →
  wpAny (model c.prog c.w) A (pyNext (.ref I)) Q No s
section
variable {c:Cx} {A:Around} {s:Shared} {β:Bt} {H:AH}
theorem jI {α:Type} {M:Model} {t:Sem α} {Q:α→Shared→Prop} {E:Value→Shared→Prop} (h:wpAny M A t Q No s):wpAny M A t Q E s:=wpAny_mono h (fun _ _ x=>x) fun _ _ e=>e.elim
theorem zjr {h:Heap} {I ax:Addr} {i:Nat} {n:String} (x:∃ o,h.get? I=some o∧o.cls=.type n∧o.data=.fields #[.ref ax,.int i 0]):∃ o,h.get? I=some o∧∀ its n,o.data≠.seq its n :=
 x.elim fun o w=>⟨o,w.1,fun _ _ e=>nomatch w.2.2.symm.trans e⟩
theorem zh3 (hh:A.handled=none) (I ax:Addr) (r:Nat) (xs:List AV) :
  Wk c A I [I] (fun H'=>match H'[r]? with | some (.list ys)=>AV.eqbs xs ys | _=>false) xs
   (fun i s β H=>s.heap.IsListIter I ax i∧β[r]?=some (ax,none)∧H[r]?=some (.list xs)) where
 inI:=.head _
 isI:=fun i s β H w=>zjr w.1
 frame:=fun i s s' β β' H H' w R p t k e=>by
  refine ⟨w.1.at fun o=>k I (.head _) o,p _ _ w.2.1,?_⟩
  split at e
  ·rename_i ys hq
   rw [hq,AV.eqbs_eq e]
  ·exact no e
 item:=fun i s β H x Q w R hx hQ =>
  OAt.lsI (P:=fun p=>p=(ax,none)→wpAny (model c.prog c.w) A (pyNext (.ref I)) Q No s) (R.at_ r _ _ w.2.1 w.2.2) (fun a us hl rr e=>by
   cases e
   exact (rr.get hx).elim fun u hu=>wpAny_pyNext_list_item w.1 hl.isList (x:=u) (List.getElem?_toArray.trans hu.1) fun h' hit' hs'=>hQ u h' s.toks hu.2 (Jd hs') fun _=>⟨hit',w.2⟩) rfl
 done:=fun s β H Q w R hQ =>
  OAt.lsI (P:=fun p=>p=(ax,none)→wpAny (model c.prog c.w) A (pyNext (.ref I)) Q No s) (R.at_ r _ _ w.2.1 w.2.2) (fun a us hl rr e=>by
   cases e
   exact wpAny_pyNext_list_end hh w.1 hl.isList (by rw [List.getElem?_toArray,← rr.length]; exact List.getElem?_eq_none (Nat.le_refl _)) fun h' he'=>hQ h' s.toks he') rfl
theorem zf1 (hh:A.handled=none) (I ax:Addr) (xs:List AV) :
  Wk c A I [I] (fun _=>true) xs (fun i s β _=>s.heap.IsTupleIter I ax i∧VR c s.heap β (.tup xs) (.ref ax)) where
 inI:=.head _
 isI:=fun i s β H w=>zjr w.1
 frame:=fun i s s' β β' H H' w R p t k e=>⟨w.1.at fun o=>k I (.head _) o,w.2.mono t p⟩
 item:=fun i s β H x Q w R hx hQ =>
  w.2.tupI (P:=fun u=>u=.ref ax→wpAny (model c.prog c.w) A (pyNext (.ref I)) Q No s) (fun a us ht rr e=>by
   cases e
   obtain ⟨u,hu,ru⟩:=rr.get hx
   obtain ⟨o,ho,hc,n,hd⟩:=ht
   exact wpAny_pyNext_tuple_item w.1 ⟨o,ho,hc,n,hd⟩ (x:=u) (List.getElem?_toArray.trans hu) fun h' hit' hs'=>hQ u h' s.toks ru (Jd hs') fun tk=>⟨hit',w.2.mono tk (.refl _)⟩) rfl
 done:=fun s β H Q w R hQ =>
  w.2.tupI (P:=fun u=>u=.ref ax→wpAny (model c.prog c.w) A (pyNext (.ref I)) Q No s) (fun a us ht rr e=>by
   cases e
   obtain ⟨o,ho,hc,n,hd⟩:=ht
   exact wpAny_pyNext_tuple_end hh w.1 ⟨o,ho,hc,n,hd⟩ (by rw [List.getElem?_toArray,← rr.length]; exact List.getElem?_eq_none (Nat.le_refl _)) fun h' he'=>hQ h' s.toks he') rfl
theorem zdL {n i:Nat} {x:AV} (h:(yo n)[i]?=some x):i < n∧x=.int (Int.ofNat i):=by
 have hi:i < n:=(List.length_range (n:=n)) ▸ (List.length_map (as:=List.range n) (fun (i:Nat)=>AV.int (Int.ofNat i))) ▸ (List.getElem?_eq_some_iff.mp h).1
 rw [yo,List.getElem?_map,List.getElem?_range hi] at h
 exact ⟨hi,(Option.some.inj h).symm⟩
theorem zeF (hh:A.handled=none) (I:Addr) (n:Nat) :
  Wk c A I [I] (fun _=>true) (yo n) (fun i s _ _=>IsRangeIter s.heap I (0 + (i:Nat) * 1) ((n:Int) - (i:Nat)) 1) where
 inI:=.head _
 isI:=fun i s β H w=>⟨_,w,fun its n e=>by cases e⟩
 frame:=fun i s s' β β' H H' w R p t k e=>k I (.head _) _ w
 item:=fun i s β H x Q w R hx hQ=>by
  obtain ⟨hi,hx'⟩:=zdL hx
  subst hx'
  refine (Walks.range (prog:=c.prog) (w:=c.w) hh I 0 1 n).item i s Q No hi w fun v h' tk z st hk=>?_
  obtain ⟨t,e⟩:=z
  subst e
  refine hQ _ h' tk ?_ (fun b o hb e=>hk b o (by simpa using hb) e) fun _=>st
  have:(0:Int) + (i:Int) * 1=Int.ofNat i:=by simp
  rw [this]; exact .int _ _
 done:=fun s β H Q w R hQ=>by
  have:(yo n).length=n:=by simp [yo]
  rw [this] at w
  exact (Walks.range (prog:=c.prog) (w:=c.w) hh I 0 1 n).done s Q No w fun h' tk hk=>hQ h' tk fun b o hb e=>hk b o (by simpa using hb) e
theorem zat {kvs:List (Str×Value)} {ks:List (List Nat)} (hk:kvs.map (·.1)=ks.map zh):kvs.length=ks.length:=(List.length_map _).symm.trans ((congrArg List.length hk).trans (List.length_map _))
theorem zmK {h:Heap} {cs:List Nat} {v:Value} (e:(strKind c.prog c.w).is (zh cs) v=true):VR c h β (.str cs) v:=by
 cases v with
 | str a t =>
  have e:(Value.str a t).isStr (zh cs)=true:=e
  cases (of_decide_eq_true e:a=zh cs)
  exact .str _ _
 | _=>exact no e
theorem zii (hh:A.handled=none) (I d:Addr) (hne:d≠I) (kvs:List (Str×Value)) (ep:Nat) (ks:List (List Nat)) (hk:kvs.map (·.1)=ks.map zh) :
  Wk c A I [I,d] (fun _=>true) (ks.map .str) (fun i s _ _=>s.heap.IsKeyIter I d i kvs.length ep∧s.heap.DictAt (strKind c.prog c.w) d kvs ep) where
 inI:=.head _
 isI:=fun i s β H w=>by
  obtain ⟨o,ho,_,hd⟩:=w.1
  exact ⟨o,ho,fun its n e=>by rw [hd] at e; cases e⟩
 frame:=fun i s s' β β' H H' w R p t k e=>(Walks.dictKeys (knd:=strKind c.prog c.w) hh I d hne kvs ep).frame i _ _ w k
 item:=fun i s β H x Q w R hx hQ=>by
  have hi:i < kvs.length:=zat hk ▸ List.length_map (as:=ks) AV.str ▸ (List.getElem?_eq_some_iff.mp hx).1
  refine (Walks.dictKeys (knd:=strKind c.prog c.w) hh I d hne kvs ep).item i s Q No hi w fun v h' tk z st hk'=>?_
  obtain ⟨y,z,e1,e2⟩:=z
  refine hQ _ h' tk ?_ (fun b o hb e=>hk' b o (by simpa using hb) e) fun _=>st
  have e3:(kvs.map (·.1))[i]?=some y:=by rw [List.getElem?_map,e1]; rfl
  rw [hk,List.getElem?_map] at e3
  obtain ⟨cs,h1,rfl⟩:=Option.map_eq_some_iff.mp e3
  rw [List.getElem?_map,h1] at hx
  cases hx
  exact zmK e2
 done:=fun s β H Q w R hQ=>by
  rw [List.length_map,← zat hk] at w
  exact (Walks.dictKeys (knd:=strKind c.prog c.w) hh I d hne kvs ep).done s Q No w fun h' tk hk=>hQ h' tk fun b o hb e=>hk b o (by simpa using hb) e
end
end Mine
end
section
namespace Mine
open PySem PySem.W PyProof.Rows PySem.Calls
open Sem (wp)
noncomputable abbrev Ve:=Nat→Option (List (List Nat))
noncomputable def KV (lv:List Str) (kd:Kd):List Nat→List Expr→Bool
 | []=>fun es=>es.isEmpty
 | i::is=>fun es=>match es with
  | e::es=>(Kn e fun x _=>okL lv kd i x)&&KV lv kd is es
  | []=>false
noncomputable def zfy (e:Expr):Bool:=!Nat.beq e.ctorIdx 25
noncomputable def zgt (e:Expr):Bool:=!Nat.beq e.ctorIdx 7
noncomputable def Zi (e:Expr):Bool:=!(Nat.ble 8 e.ctorIdx&&Nat.ble e.ctorIdx 10)
noncomputable def zqc (N:Nm) (lv:List Str) (kd:Kd):X→Expr→Bool
 | .range a=>fun e=>J1 kd (some "range") e fun as=>l1 as fun y=>zj y&&okE N lv kd a y
 | it=>fun e=>zgt e&&okE N lv kd it e
noncomputable def zp1 (N:Nm) (lv:List Str) (kd:Kd) (v:Expr):Tg→Expr→Bool
 | .name i=>fun w=>Kn w fun x _=>okL lv kd i x
 | .attr o n=>fun w=>YW w fun y name _=>name == N.fld n&&okE N lv kd o y
 | .idx o i=>fun w=>V8 w fun y sl _=>J5 sl&&okE N lv kd o y&&okE N lv kd i sl
 | .names is=>fun w=>zaK w fun es _ _=>zfy v&&KV lv kd is es
noncomputable def zla (op:Operator):Bool:=op == .Add || op == .Sub
noncomputable def sm (o:Option Expr) (f:Expr→Bool):Bool:=match o with | some x=>f x | none=>false
mutual
noncomputable def okS (N:Nm) (ll:Ve) (lv:List Str) (kd:Kd):S→Stmt→Bool
 | .expr a=>fun e=>zc2 e fun v _=>Zi v&&okE N lv kd a v
 | .set t a=>fun e=>zcu e fun ws v _=>(Zi v&&okE N lv kd a v)&&l1 ws fun w=>zp1 N lv kd v t w
 | .augA o n op a=>fun e=>xR e fun w op' v _=>zla op'&&op' == op&&(YW w fun y name _=>name == N.fld n&&okE N lv kd o y)&&okE N lv kd a v
 | .augN i op a=>fun e=>xR e fun w op' v _=>zla op'&&op' == op&&(Kn w fun x _=>okL lv kd i x)&&okE N lv kd a v
 | .ite t b o=>fun e=>zcK e fun v b' o' _=>okE N lv kd t v&&Kw N ll lv kd b b'&&Kw N ll lv kd o o'
 | .loop i it b=>fun e=>za4 e fun w v b' o' _=>o'.isEmpty&&(Kn w fun x _=>okL lv kd i x)&&zqc N lv kd it v&&Kw N ll lv kd b b'
 | .loopK i f ks b=>fun e=>za4 e fun w v b' o' _=>o'.isEmpty&&(Kn w fun x _=>okL lv kd i x)&&J1 kd (N.fn f) v (fun as=>as.isEmpty)&&ll f == some ks&&Kw N ll lv kd b b'
 | .while t b=>fun e=>zcJ e fun v b' o' _=>o'.isEmpty&&okE N lv kd t v&&Kw N ll lv kd b b'
 | .ret a=>fun e=>zcS e fun v _=>sm v fun v=>okE N lv kd a v
 | .delAll o=>fun e=>zcR e fun ws _=>l1 ws fun w=>V8 w fun y sl _=>(Zq sl fun a b c _=>a.isNone&&b.isNone&&c.isNone)&&okE N lv kd o y
 | .bad=>fun _=>true
noncomputable def Kw (N:Nm) (ll:Ve) (lv:List Str) (kd:Kd):List S→List Stmt→Bool
 | []=>fun es=>es.isEmpty
 | x::xs=>fun es=>match es with | e::es=>okS N ll lv kd x e&&Kw N ll lv kd xs es | []=>false
end
inductive zhr (c:Cx) (s:Shared) (β:Bt) (H:AH) (ks:List (List Nat)) (u:Value) (s':Shared):Prop
 | mk {d:Addr} {kvs:List (Str×Value)} {ep:Nat} (e1:u=.ref d) (hs:(d == sysModules)=false) (x:Ext c none s s' β β H) (nd:d∉yp β) (nh:c.h₀.get? d=none) (ns:s.heap.get? d=none) (hd:s'.heap.DictAt (strKind c.prog c.w) d kvs ep) (hk:kvs.map (·.1)=ks.map zh)
noncomputable def xd (c:Cx) (f:Nat) (ks:List (List Nat)) (n:Nat):Prop:=jZ c f∧∀ A s β H,RC n A→Rel c β H s.heap →
 codeAny (model c.prog c.w) A (.call (.ref (c.fn f)) ⟨[],[]⟩) (OkV (zhr c s β H ks)) s
structure Kt.Ok' (k:Kt) (ll:Ve):Prop extends k.Ok where
 lvs:k.lv.Nodup
 lit:∀ f ks,ll f=some ks→xd k.c f ks k.n
noncomputable def FlR (c:Cx) (h:Heap) (β:Bt):Fl→Flow→Prop
 | .next,.next=>True
 | .ret v,.ret u=>VR c h β v u
 | _,_=>False
inductive ZP (k:Kt) (s:Shared) (β:Bt) (fl:Fl) (ρ':Loc) (H':AH) (f:Flow) (s':Shared):Prop
 | mk (β':Bt) (x:Ext k.c (some k.env.locals) s s' β β' H') (l:LR k.c k.lv k.env.locals s'.heap β' ρ') (r:FlR k.c s'.heap β' fl f)
noncomputable def RS (k:Kt) (s:Shared) (β:Bt) (p:Fl×Loc×AH):Flow→Shared→Prop:=ZP k s β p.1 p.2.1 p.2.2
noncomputable def SX (k:Kt) (ll:Ve) (st:S):Prop:=∀ e,okS k.N ll k.lv k.env.kindOf st e=true→∀ A s β H ρ p,RN k.n A→LR k.c k.lv k.env.locals s.heap β ρ→Rel k.c β H s.heap→evS k.G k.Cf st ρ H=some p →
 wpAny (model k.c.prog k.c.w) A (exec e k.env) (RS k s β p) No s
noncomputable def SXs (k:Kt) (ll:Ve) (sts:List S):Prop:=∀ es,Kw k.N ll k.lv k.env.kindOf sts es=true→∀ A s β H ρ p,RN k.n A→LR k.c k.lv k.env.locals s.heap β ρ→Rel k.c β H s.heap→y0 k.G k.Cf sts ρ H=some p →
 wpAny (model k.c.prog k.c.w) A (execs es k.env) (RS k s β p) No s
section
variable {k:Kt} {ll:Ve} {A:Around} {s s₁ s₂:Shared} {β β₁:Bt} {H H' H₁:AH} {ρ ρ':Loc} {fl:Fl}
theorem ZP.after (x:Ext k.c (some k.env.locals) s s₁ β β₁ H₁) {f:Flow} {s':Shared} (r:ZP k s₁ β₁ fl ρ' H' f s'):ZP k s β fl ρ' H' f s' :=
 ZP.casesOn r fun β' y l q=>⟨β',x.trans y,l,q⟩
theorem wpF {t:Sem Flow} {M:Model} {p:Fl×Loc×AH} (x:Ext k.c (some k.env.locals) s s₁ β β₁ H₁) (h:wpAny M A t (RS k s₁ β₁ p) No s₂):wpAny M A t (RS k s β p) No s₂ :=
 wpAny_mono h (fun _ _ r=>ZP.after x r) fun _ _ e=>e
theorem toL {s':Shared} {β':Bt} (L:LR k.c k.lv k.env.locals s.heap β ρ) (x:Ext k.c none s s' β β' H'):Ext k.c (some k.env.locals) s s' β β' H':=L.there.elim fun _ ho=>x.toL ho
theorem ziM:SXs k ll []:=fun es ok A s β H ρ p hA L R ev=>by
 cases emp ok
 exact oe (P:=fun p=>wpAny _ A _ (RS k s β p) No s) ev (wpAny_execs_nil ⟨β,.refl R,L,trivial⟩)
theorem zeS {st:S} {sts:List S} (hx:SX k ll st) (h:SXs k ll sts):SXs k ll (st::sts):=fun es ok A s β H ρ p hA L R ev=>by
 induction es using List.casesOn with
 | nil=>exact no ok
 | cons e es =>
  refine ob ev fun q h1 h2=>wpAny_execs_cons (wpAny_mono (hx e (tt ok).1 A s β H ρ q hA L R h1) (fun f s₁ z=>ZP.casesOn z fun β₁ x₁ L₁ r₁=>?_) fun _ _ e=>e)
  obtain ⟨fl1,ρ1,H₁⟩:=q
  cases fl1 with
  | next=>cases f with
   | next=>exact wpF x₁ (h es (tt ok).2 A s₁ β₁ H₁ ρ1 p hA L₁ x₁.rel h2)
   | _=>exact False.elim r₁
  | ret v=>cases f with
   | ret u=>exact oe (P:=fun p=>RS k s β p (.ret u) s₁) h2 ⟨β₁,x₁,L₁,r₁⟩
   | _=>exact False.elim r₁
theorem zax {e:Expr} (h:Zi e=true) (t:Option Expr) (n:Nat) (env:Env):swapsWith e t n env=pure false:=by
 cases e <;> first | rfl | exact no h
theorem zmm {x:Str} {p:Pos} (v:Expr) (env:Env):swappedStores [.Name x p] v env=pure none:=by cases v <;> rfl
theorem zj9 {y:Expr} {n:Str} {p:Pos} (v:Expr) (env:Env):swappedStores [.Attribute y n p] v env=pure none:=by cases v <;> rfl
theorem zkw {y i:Expr} {p:Pos} (v:Expr) (env:Env):swappedStores [.Subscript y i p] v env=pure none:=by cases v <;> rfl
theorem zkm {es:List Expr} {k:Nat} {p:Pos} {v:Expr} (h:zfy v=true) (env:Env):swappedStores [.Tuple es k p] v env=pure none:=by cases v <;> first | rfl | exact no h
theorem zgQ (K:k.Ok):interactive k.env=false:=by
 unfold interactive
 rw [K.kind]; rfl
theorem zhT (K:k.Ok) {a:X} (ha:SE k a):SX k ll (.expr a):=fun e ok A s β H ρ p hA L R ev=>by
 refine zdW ok fun v _ ok=>?_
 refine om (P:=fun p=>wpAny _ A _ (RS k s β p) No s) ev fun q h1=>?_
 exact wpAny_Expr_any (ha.one (tt ok).2 hA L R h1 fun u s₁ β₁ x₁ r₁=>⟨β₁,toL L x₁,L.ext x₁,trivial⟩) (zgQ K) (zax (tt ok).1 _ _ _)
theorem zmv {a:X} (ha:SE k a):SX k ll (.ret a):=fun e ok A s β H ρ p hA L R ev=>by
 refine zdA ok fun v _ ok=>?_
 induction v using Option.casesOn with
 | none=>exact no ok
 | some v =>
  refine om (P:=fun p=>wpAny _ A _ (RS k s β p) No s) ev fun q h1=>?_
  exact wpAny_Return_some (ha.one ok hA L R h1 fun u s₁ β₁ x₁ r₁=>⟨β₁,toL L x₁,L.ext x₁,r₁⟩)
theorem Va (K:k.Ok' ll) (L:LR k.c k.lv k.env.locals s.heap β ρ) (R:Rel k.c β H s.heap) {i:Nat} {x:Str} (o:okL k.lv k.env.kindOf i x=true) {v:AV} {u:Value} (r:VR k.c s.heap β v u) {Q:Unit→Shared→Prop} {E:Value→Shared→Prop}
  (q:∀ h' t,Ext k.c (some k.env.locals) s { s with heap:=h',toks:=t } β β H→(∀ b,b≠k.env.locals→h'.get? b=s.heap.get? b)→LR k.c k.lv k.env.locals h' β (zf i v ρ)→Q () { s with heap:=h',toks:=t }) :
  wpAny (model k.c.prog k.c.w) A (storeName k.env x u) Q E s:=by
 obtain ⟨o1,o2,_⟩:=zbu o
 obtain ⟨m,hn,hm⟩:=L.ns
 refine wpAny_storeName_local o2 hn (fun h' hn' hs'=>?_) (by rw [K.kind]; rfl)
 obtain ⟨ob,es,ep,ho,hd,rest⟩:=id hn
 have nseq:∀ its n,ob.data≠.seq its n:=fun its n e=>by rw [hd] at e; cases e
 have kp:∀ b y,b≠k.env.locals→s.heap.get? b=some y→h'.get? b=some y:=fun b y hb e=>(hs'.2 b hb).trans e
 have tk:zw s.heap h':=.of_but ho (.inr nseq) kp
 refine q h' _ ⟨⟨h',_,rfl⟩,.refl _,fun b y hL _ e=>kp b y (fun z=>hL (z ▸ rfl)) e,fun _ h h'=>absurd h h',tk,R.but L.off L.old ho nseq kp⟩ (fun b hb=>hs'.2 b hb) ⟨⟨_,hn',fun j w e=>?_⟩,L.off,L.old⟩
 rw [zr] at e
 by_cases hj:i=j
 ·subst hj
  rw [if_pos rfl] at e; cases e
  exact ⟨x,u,o1,by simp,r.mono tk (.refl _)⟩
 ·rw [if_neg hj] at e
  obtain ⟨y,w',e1,e2,e3⟩:=hm j w e
  refine ⟨y,w',e1,?_,e3.mono tk (.refl _)⟩
  have:y≠x:=by
   intro z
   subst z
   have l1:=(List.getElem?_eq_some_iff.mp o1)
   have l2:=(List.getElem?_eq_some_iff.mp e1)
   obtain ⟨a1,a2⟩:=l1
   obtain ⟨b1,b2⟩:=l2
   have pw:=List.pairwise_iff_getElem.mp K.lvs
   rcases Nat.lt_or_gt_of_ne hj with q | q
   ·exact pw i j a1 b1 q (a2.trans b2.symm)
   ·exact pw j i b1 a1 q (b2.trans a2.symm)
  rw [if_neg this]; exact e2
theorem ziQ {t:Expr} (h:zj t=true) (env:Env):(assignEach [t] env).map (·.2)=[assign t env]:=by cases t <;> first | rfl | exact no h
theorem J7 {t v:Expr} {pos:Pos} {M:Model} {E:Value→Shared→Prop} {Q:Flow→Shared→Prop} (o:Zi v=true) (hst:zj t=true)
  (hw:swappedStores [t] v k.env=pure none) (h:wpAny M A (eval v k.env) (fun u s₁=>wpAny M A (assign t k.env u) (fun _=>Q .next) E s₁) E s):wpAny M A (exec (.Assign [t] v pos) k.env) Q E s:=by
 refine wpAny_Assign_stores (wpAny_mono h (fun u s₁ h₁=>?_) fun _ _ e=>e) (zax o _ _ _) hw
 rw [ziQ hst]; exact h₁
theorem ziI {N:Nm} {lv:List Str} {kd:Kd} {e:Stmt} {P:Stmt→Prop} {t:Tg} {a:X} (h:okS N ll lv kd (.set t a) e=true) (nx:∀ w v p,Zi v=true→okE N lv kd a v=true→zp1 N lv kd v t w=true→P (.Assign [w] v p)):P e :=
 zdI h fun ws v p h=>Vy (P:=fun ws=>P (.Assign ws v p)) (tt h).2 fun w o=>nx w v p (tt (tt h).1).1 (tt (tt h).1).2 o
theorem zje (K:k.Ok' ll) {i:Nat} {a:X} (ha:SE k a):SX k ll (.set (.name i) a):=fun e ok A s β H ρ p hA L R ev=>by
 refine ziI (P:=fun e=>wpAny _ A (exec e k.env) _ _ s) ok fun w v pos on o1 o2=>?_
 refine yb (P:=fun w=>wpAny _ A (exec (.Assign [w] v pos) k.env) _ _ s) o2 fun x px o2=>?_
 refine ob ev fun q h1 ev=>oe (P:=fun p=>wpAny _ A _ (RS k s β p) No s) ev ?_
 refine J7 on rfl (zmm _ _) (ha.one o1 hA L R h1 fun u s₁ β₁ x₁ r₁=>?_)
 exact wpAny_assign_Name (Va K (L.ext x₁) x₁.rel o2 r₁ fun h' t x₂ _ L₂=>⟨β₁,(toL L x₁).trans x₂,L₂,trivial⟩)
theorem qe {c:Cx} {lv:List Str} {L:Addr} (B:Bs c) (R:Rel c β H s.heap) (L₀:LR c lv L s.heap β ρ) {o v:AV} {n:Nat} {u w:Value} (ro:VR c s.heap β o u) (rv:VR c s.heap β v w) (e:yv H o n v=some H') {Q:Unit→Shared→Prop}
  (q:∀ s',Ext c (some L) s s' β β H'→LR c lv L s'.heap β ρ→Q () s'):wpAny (model c.prog c.w) A (setAttr u (c.fld n) w) Q No s:=by
 obtain ⟨m,hn,hm⟩:=L₀.ns
 exact wpAny_mono (zay B R hn L₀.off L₀.old ro rv e) (fun _ s' z=>q s' z.1 ⟨⟨m,z.2,fun i u e=>(hm i u e).elim fun y h=>h.elim fun w h=>⟨y,w,h.1,h.2.1,z.1.vr h.2.2⟩⟩,L₀.off,L₀.old⟩) fun _ _ e=>e
theorem zhl (K:k.Ok' ll) {o a:X} {n:Nat} (ho:SE k o) (ha:SE k a):SX k ll (.set (.attr o n) a):=fun e ok A s β H ρ p hA L R ev=>by
 refine ziI (P:=fun e=>wpAny _ A (exec e k.env) _ _ s) ok fun w v pos on o1 o2=>?_
 refine KU (P:=fun w=>wpAny _ A (exec (.Assign [w] v pos) k.env) _ _ s) o2 fun y name p2 o2=>?_
 cases eq_of_beq (tt o2).1
 refine ob ev fun q h1 ev=>?_
 refine J7 on rfl (zj9 _ _) (ha.one o1 hA L R h1 fun u s₁ β₁ x₁ r₁=>?_)
 refine wpAny_bind (wpAny_holding (ho.use (tt o2).2 hA (L.ext x₁) x₁.rel ev fun q2 w s₂ β₂ x₂ r₂ ev=>?_))
 refine om' ev fun H₃ h5 e=>?_
 subst e
 refine wpAny_bind (wpAny_standAt (wpAny_bind (wpAny_holding ?_)))
 rw [← K.base.fe]
 exact qe K.base.toBs x₂.rel ((L.ext x₁).ext x₂) r₂ (x₂.vr r₁) h5 fun s₃ x₃ L₃=>wpAny_release ⟨β₂,(toL L (x₁.trans x₂)).trans x₃,L₃,trivial⟩
theorem zkl (K:k.Ok' ll) {o i a:X} (ho:SE k o) (hi:SE k i) (ha:SE k a):SX k ll (.set (.idx o i) a):=fun e ok A s β H ρ p hA L R ev=>by
 refine ziI (P:=fun e=>wpAny _ A (exec e k.env) _ _ s) ok fun w v pos on o1 o2=>?_
 refine Ji (P:=fun w=>wpAny _ A (exec (.Assign [w] v pos) k.env) _ _ s) o2 fun y sl p2 o2=>?_
 obtain ⟨o2,o4⟩:=tt o2
 refine ob ev fun q h1 ev=>?_
 refine J7 on rfl (zkw _ _) (ha.one o1 hA L R h1 fun u s₁ β₁ x₁ r₁=>?_)
 refine wpAny_bind (wpAny_holding (ho.use (tt o2).2 hA (L.ext x₁) x₁.rel ev fun q2 w s₂ β₂ x₂ r₂ ev=>?_))
 refine wpAny_bind (wpAny_holding (hi.use o4 hA ((L.ext x₁).ext x₂) x₂.rel ev fun q3 iv s₃ β₃ x₃ r₃ ev=>?_))
 refine om' ev fun H₄ h7 e=>?_
 subst e
 refine wpAny_bind (wpAny_standAt (wpAny_bind (wpAny_holding ?_)))
 have L₃:=((L.ext x₁).ext x₂).ext x₃
 refine wpAny_mono (jS hA.tk x₃.rel (x₃.vr r₂) r₃ (x₃.vr (x₂.vr r₁)) h7) (fun _ s₄ x₄=>?_) fun _ _ e=>e
 have x₄:Ext k.c none s₃ s₄ β₃ β₃ H₄:=x₄
 exact wpAny_release ⟨β₃,toL L (((x₁.trans x₂).trans x₃).trans x₄),L₃.ext x₄,trivial⟩
theorem znU {lv:List Str} {kd:Kd} {i:Nat} {is:List Nat} {es:List Expr} {P:List Expr→Prop} (h:KV lv kd (i::is) es=true) (nx:∀ x p es,okL lv kd i x=true→KV lv kd is es=true→P (.Name x p::es)):P es:=by
 induction es using List.casesOn with
 | nil=>exact no h
 | cons e es=>exact yb (P:=fun e=>P (e::es)) (tt h).1 fun x p o=>nx x p es o (tt h).2
theorem zeM {h:Heap}:∀ {is:List Nat} {es:List Expr} {vs:List AV} {us:List Value} {ρ ρ':Loc},KV k.lv k.env.kindOf is es=true→VRs k.c h β vs us→y8 is vs ρ=some ρ'→(assignEach es k.env).length=us.length∧(assignEach es k.env).findIdx? (·.1)=none
 | [],es,vs,us,_,_,o,r,e=>by
  cases emp o
  cases r with
  | nil=>exact ⟨rfl,rfl⟩
  | cons=>exact nn e
 | i::is,es,vs,us,ρ,_,o,r,e=>by
  cases r with
  | nil=>exact nn e
  | cons r rs =>
   refine znU (P:=fun es=>(assignEach es k.env).length=_∧(assignEach es k.env).findIdx? (·.1)=none) o fun x p es _ o2=>?_
   obtain ⟨a,b⟩:=zeM o2 rs e
   refine ⟨congrArg (· + 1) a,?_⟩
   show List.findIdx? (fun x=>x.1) ((false,assign (.Name x p) k.env)::assignEach es k.env)=none
   rw [List.findIdx?_cons]; simp [b]
theorem Y0 (K:k.Ok' ll):∀ {is:List Nat} {es:List Expr} {vs:List AV} {us:List Value} {s:Shared} {ρ ρ':Loc},KV k.lv k.env.kindOf is es=true→LR k.c k.lv k.env.locals s.heap β ρ→Rel k.c β H s.heap→VRs k.c s.heap β vs us→y8 is vs ρ=some ρ' →
  ∀ (A:Around) (Q:Unit→Shared→Prop),(∀ s',Ext k.c (some k.env.locals) s s' β β H→LR k.c k.lv k.env.locals s'.heap β ρ'→Q () s')→wpAny (model k.c.prog k.c.w) A (assignInOrder ((assignEach es k.env).map (·.2)) us) Q No s
 | [],es,vs,us,s,ρ,ρ',o,L,R,r,e=>fun A Q q=>by
  cases emp o
  cases r with
  | nil=>cases e; exact wpAny_pure (q s (.refl R) L)
  | cons=>exact nn e
 | i::is,es,vs,us,s,ρ,ρ',o,L,R,r,e=>fun A Q q=>by
  cases r with
  | nil=>exact nn e
  | cons r rs =>
   refine znU (P:=fun es=>wpAny _ A (assignInOrder ((assignEach es k.env).map (·.2)) _) Q No s) o fun x p es o1 o2=>?_
   exact wpAny_bind (wpAny_holding (wpAny_assign_Name (Va K L R o1 r fun h' t x₁ _ L₁=>Y0 K (s:={ s with heap:=h',toks:=t }) o2 L₁ x₁.rel (x₁.vrs rs) e A Q fun s' x₂ L₂=>q s' (x₁.trans x₂) L₂)))
theorem zgd (K:k.Ok' ll) {is:List Nat} {a:X} (ha:SE k a):SX k ll (.set (.names is) a):=fun e ok A s β H ρ p hA L R ev=>by
 refine ziI (P:=fun e=>wpAny _ A (exec e k.env) _ _ s) ok fun w v pos on o1 o2=>?_
 refine qa (P:=fun w=>wpAny _ A (exec (.Assign [w] v pos) k.env) _ _ s) o2 fun es kk p2 o2=>?_
 obtain ⟨o2,o3⟩:=tt o2
 refine ob ev fun q h1 ev=>znA ev fun vs e1 ev=>om' ev fun ρ1 h3 e=>?_
 subst e
 refine J7 on rfl (zkm o2 _) (ha.one o1 hA L R h1 fun u s₁ β₁ x₁ r₁=>?_)
 rw [e1] at r₁
 refine r₁.tupI fun ad us ht rs=>?_
 ·have L₁:=L.ext x₁
  obtain ⟨a1,a2⟩:=zeM o3 rs h3
  obtain ⟨ob,ho,hc,n,hd⟩:=id ht
  refine wpAny_assign_Tuple hA.hnd (items:=us.toArray) ⟨ob,ho,hc,n,hd⟩ (by rw [a1]; simp) a2 fun h' he'=>?_
  have kp:∀ b y,s₁.heap.get? b=some y→h'.get? b=some y:=fun b y e=>he' b y (Nat.ne_of_lt (Heap.lt_size e)) e
  have x₂:Ext k.c none s₁ { s₁ with heap:=h' } β₁ β₁ q.2:=.grow x₁.rel kp
  exact Y0 K (s:={ s₁ with heap:=h' }) o3 (L₁.ext x₂) x₂.rel (x₂.vrs rs) h3 _ _ fun s' x₃ L₃=>⟨β₁,(toL L (x₁.trans x₂)).trans x₃,L₃,trivial⟩
theorem Yh {c:Cx} (R:Rel c β H s.heap) {op:Operator} (ho:zla op=true) {x y:Int} {p:AV×AH} {u w:Value} (ra:VR c s.heap β (.int x) u) (rb:VR c s.heap β (.int y) w) (e:qd op (.int x) (.int y) H=some p) :
  wpAny (model c.prog c.w) A (inplaceOp op u w) (Res c s β p.2 p.1) No s:=by
 refine ra.intI fun t=>rb.intI fun t'=>?_
 cases op with
 | Add=>exact oe (P:=fun p=>wpAny _ A _ (Res c s β p.2 p.1) No s) e (P.iadd_int (Res.int0 R _ _))
 | Sub=>exact oe (P:=fun p=>wpAny _ A _ (Res c s β p.2 p.1) No s) e (P.isub_int (Res.int0 R _ _))
 | _=>exact no ho
theorem oIJ {α:Type} {a b:AV} {o:Option α} {r:α} {P:Prop} (h:(match a,b with | .int _,.int _=>o | _,_=>none)=some r) (nx:∀ x y,a=.int x→b=.int y→o=some r→P):P:=by
 induction a using AV.casesOn with
 | int x=>induction b using AV.casesOn with
  | int y=>exact nx x y rfl rfl h
  | _=>exact nn h
 | _=>exact nn h
theorem zjh (K:k.Ok' ll) {i:Nat} {op:Operator} {a:X} (ha:SE k a):SX k ll (.augN i op a):=fun e ok A s β H ρ p hA L R ev=>by
 refine qc ok fun w op' v pos ok=>?_
 obtain ⟨ok,o3⟩:=tt ok
 obtain ⟨ok,o2⟩:=tt ok
 obtain ⟨o1,o0⟩:=tt ok
 cases eq_of_beq o0
 refine yb (P:=fun w=>wpAny _ A (exec (.AugAssign w op v pos) k.env) _ _ s) o2 fun x px o2=>?_
 refine ob ev fun v0 h0 ev=>?_
 obtain ⟨e1,e2,e3⟩:=zbu o2
 obtain ⟨m,hn,hm⟩:=L.ns
 obtain ⟨y,w,l1,l2,l3⟩:=hm i _ h0
 cases e1.symm.trans l1
 refine wpAny_AugAssign_Name (wpAny_loadName_local K.kind e2 hn l2 (ha.use o3 hA L R ev fun q u s₁ β₁ x₁ r₁ ev=>oIJ ev fun a b ea eb ev=>om' ev fun q2 h4 e=>?_))
 subst e
 rw [ea,eb] at h4
 refine wpAny_mono (Yh x₁.rel o1 (x₁.vr (ea ▸ l3)) (eb ▸ r₁) h4) (fun u' s₂ z=>Res.casesOn z fun β₂ x₂ r₂=>?_) fun _ _ e=>e
 exact Va K ((L.ext x₁).ext x₂) x₂.rel o2 r₂ fun h' t x₃ _ L₃=>⟨β₂,(toL L (x₁.trans x₂)).trans x₃,L₃,trivial⟩
theorem zi2 (K:k.Ok' ll) {o:X} {n:Nat} {op:Operator} {a:X} (ho:SE k o) (ha:SE k a):SX k ll (.augA o n op a):=fun e ok A s β H ρ p hA L R ev=>by
 refine qc ok fun w op' v pos ok=>?_
 obtain ⟨ok,o3⟩:=tt ok
 obtain ⟨ok,o2⟩:=tt ok
 obtain ⟨o1,o0⟩:=tt ok
 cases eq_of_beq o0
 refine KU (P:=fun w=>wpAny _ A (exec (.AugAssign w op v pos) k.env) _ _ s) o2 fun y name px o2=>?_
 cases eq_of_beq (tt o2).1
 refine wpAny_AugAssign_AttributeAny (ho.use (tt o2).2 hA L R ev fun q u s₁ β₁ x₁ r₁ ev=>ob ev fun v1 h2 ev=>?_)
 rw [← K.base.fe]
 refine wpAny_mono (Yc K.base.toBs x₁.rel r₁ h2) (fun u2 s₂ z=>Res.casesOn z fun β₂ x₂ r₂=>?_) fun _ _ e=>e
 refine ha.use o3 hA ((L.ext x₁).ext x₂) x₂.rel ev fun q3 u3 s₃ β₃ x₃ r₃ ev=>oIJ ev fun a b ea eb ev=>ob ev fun q4 h6 ev=>om' ev fun H₄ h8 e=>?_
 subst e
 rw [ea,eb] at h6
 refine wpAny_mono (Yh x₃.rel o1 (x₃.vr (ea ▸ r₂)) (eb ▸ r₃) h6) (fun u4 s₄ z=>Res.casesOn z fun β₄ x₄ r₄=>?_) fun _ _ e=>e
 exact qe K.base.toBs x₄.rel ((((L.ext x₁).ext x₂).ext x₃).ext x₄) (x₄.vr (x₃.vr (x₂.vr r₁))) r₄ h8 fun s₅ x₅ L₅=>⟨β₄,(toL L (((x₁.trans x₂).trans x₃).trans x₄)).trans x₅,L₅,trivial⟩
theorem zmg {t:X} {b o:List S} (ht:ST k t) (hb:SXs k ll b) (ho:SXs k ll o):SX k ll (.ite t b o):=fun e ok A s β H ρ p hA L R ev=>by
 refine zds ok fun v b' o' pos ok=>?_
 obtain ⟨ok,o3⟩:=tt ok
 refine wpAny_If (ht.use (tt ok).1 hA L R ev fun r H₁ s₁ β₁ x₁ ev=>?_)
 induction r using Bool.casesOn with
 | true=>exact wpF (toL L x₁) (hb _ (tt ok).2 A s₁ β₁ H₁ ρ p hA (L.ext x₁) x₁.rel ev)
 | false=>exact wpF (toL L x₁) (ho _ o3 A s₁ β₁ H₁ ρ p hA (L.ext x₁) x₁.rel ev)
end
end Mine
end
section
namespace Mine
open PySem PySem.W PyProof.Rows PySem.Calls
open Sem (wp)
theorem xH {α:Type} (f:Nat→Bool) (xs:List α) (h:∀ k,k < xs.length→f k=true):(xs.zipIdx.filterMap fun (p:α×Nat)=>if f p.2 then none else some p.1)=[]:=by
 apply List.filterMap_eq_nil_iff.mpr
 rintro ⟨x,i⟩ hm
 have:=(List.mem_zipIdx hm).2.1
 dsimp only
 rw [h i (by omega)]; rfl
noncomputable def zeT (n k:Nat):Bool:=if (1:Int) > 0 then decide (((0:Nat):Int)≤(k:Int))&&decide ((k:Int) < (n:Int))&&((k:Int) - ((0:Nat):Int)) % 1 == 0
 else decide ((n:Int) < (k:Int))&&decide ((k:Int)≤((0:Nat):Int))&&(((0:Nat):Int) - (k:Int)) % (-1) == 0
theorem zht {n k:Nat} (h:k < n):zeT n k=true:=by
 unfold zeT
 rw [if_pos (by decide)]
 simp [Int.emod_one]
 omega
theorem Wy (l sl:Addr) (items:Array Value) (n:Nat) (hz:items.size≤sizeLine):Meets (Builtin.«list.__delitem__» ⟨[.ref l,.ref sl],[]⟩)
  (fun _ R s=>s.heap.get? l=some { cls:=.type "list",data:=.seq items n }∧s.heap.IsSliceOf sl .none .none .none∧∀ h',h'.PlainList l #[]→Heap.SameBut l s.heap h'→R (.ok (.ret .none)) { s with heap:=h' }):=by
 intro prog w A R s ⟨hl,hs,hQ⟩
 obtain ⟨os,hos,hcs,hds⟩:=id hs
 have hTs:s.TypeIs (.ref sl) "slice":=⟨os,hos,hcs⟩
 unfold Builtin.«list.__delitem__»
 refine wpAny_bind (wpAny_pure ?_)
 refine wpAny_bind (m:=Builtin.List.listSubscript? (.ref sl)) ?_
 unfold Builtin.List.listSubscript?
 refine wpAny_bind (wpAny_specialOf hTs slice_no_index ?_)
 simp only [Option.isNone_none,if_true]
 refine wpAny_pure ?_
 show wpAny _ _ (typeOf (.ref sl) >>= _) _ _ s
 refine wpAny_bind (wpAny_typeOf hTs ?_)
 rw [if_neg (by decide)]
 rw [listSliceParts_eq]
 refine wpAny_bind (wpAny_bind (wpAny_field hos hds (x:=.none) rfl (wpAny_bind (wpAny_listPart .none ?_))))
 rw [if_neg (by decide)]
 refine wpAny_bind (wpAny_field hos hds (x:=.none) rfl (wpAny_bind (wpAny_listPart .none ?_)))
 refine wpAny_bind (wpAny_field hos hds (x:=.none) rfl (wpAny_bind (wpAny_listPart .none (wpAny_pure ?_))))
 refine wpAny_bind (m:=Builtin.List.listItems (.ref l)) ?_
 unfold Builtin.List.listItems
 refine wpAny_bind (wpAny_seqItems hl rfl (wpAny_pure ?_))
 refine wpAny_bind (wpAny_of_eq (sliceIndices_raw none none none items.size (by simp)) ?_)
 refine wpAny_bind (wpAny_rule ?_)
 have sb:sliceBounds none none none items.size=(((0:Nat):Int),(items.size:Int),1):=by simp [sliceBounds]
 rw [sb]
 dsimp only
 refine wpAny_bind ?_
 show wpAny _ _ (updateSeq l _) _ _ _
 have e0:(items.toList.zipIdx.filterMap fun (p:Value×Nat)=>if zeT items.size p.2 then none else some p.1)=[] :=
  xH (zeT items.size) items.toList fun k hk=>zht (by simpa using hk)
 have q:=PySem.IsL.update (n:=n) hl fun xs:Array Value=>(xs.toList.zipIdx.filterMap fun (p:Value×Nat)=>if zeT items.size p.2 then none else some p.1).toArray
 rw [e0] at q
 refine wpAny_updateSeq hl rfl (wpAny_bind (wpAny_letGo (wpAny_pure (hQ _ ⟨_,q⟩ (Heap.SameBut.update ..))))) hz ?_
 refine Nat.le_trans ?_ (Nat.le_succ _)
 refine Nat.le_trans ?_ hz
 rw [List.size_toArray]
 refine Nat.le_trans (List.length_filterMap_le _ _) ?_
 simp
section
variable {k:Kt} {ll:Ve} {A:Around} {s:Shared} {β:Bt} {H H' H₁:AH} {ρ ρ':Loc} {fl:Fl}
theorem zd8 {o:X} (ho:SE k o):SX k ll (.delAll o):=fun e ok A s β H ρ p hA L R ev=>by
 refine zdF ok fun ws pos ok=>?_
 refine Vy (P:=fun ws=>wpAny _ A (exec (.Delete ws pos) k.env) _ _ s) ok fun w ok=>?_
 refine Ji (P:=fun w=>wpAny _ A (exec (.Delete [w] pos) k.env) _ _ s) ok fun y sl p1 ok=>?_
 refine KX (P:=fun sl=>wpAny _ A (exec (.Delete [.Subscript y sl p1] pos) k.env) _ _ s) (tt ok).1 fun a b c p2 h=>?_
 obtain ⟨h12,h3⟩:=tt h
 obtain ⟨h1,h2⟩:=tt h12
 cases yP h3
 cases yP h1
 cases yP h2
 refine wpAny_Delete (wpAny_deleteEach_cons (wpAny_bind (ho.use (tt ok).2 hA L R ev fun t u s₁ β₁ x₁ r₁ ev=>zbg ev fun q e ev=>xT ev fun xs hq ev=>og ev fun hz ev=>?_)))
 refine oe (P:=fun p=>wpAny _ A _ (fun _ s₁=>wpAny _ A (deleteEach [] k.env) (fun _ s₁=>RS k s β p .next s₁) No s₁) No s₁) ev ?_
 rw [e] at r₁
 refine x₁.rel.lsI r₁ hq fun l us g hl rr=>wpAny_bind (wpAny_holding (wpAny_Slice (evalPart_none_step (evalPart_none_step (evalPart_none_step ?_)))))
 obtain ⟨n,hl⟩:=hl
 refine wpAny_bind (wpAny_standAt (wpAny_bind (wpAny_holding ?_)))
 clear ev ok h h1 h2 h3 h12 R
 have kp:∀ b o,s₁.heap.get? b=some o→(s₁.heap.push { cls:=.type "slice",data:=.fields #[.none,.none,.none] }).get? b=some o:=fun b o e=>Heap.get?_push_of_some _ e
 have x₂:Ext k.c none s₁ { s₁ with heap:=s₁.heap.push { cls:=.type "slice",data:=.fields #[.none,.none,.none] } } β₁ β₁ t.2:=.grow x₁.rel kp
 exact delItem_meets ⟨_,kp _ _ hl,rfl⟩ (by decide) PySem.F.slot_list_delitem PySem.F.entry_list_delitem (PySem.F.args_list_delitem_2 _ _) (Wy _ _ us.toArray n (by rw [List.size_toArray,rr.length]; exact J9 hz)) ⟨kp _ _ hl,Heap.IsSliceOf.new ..,fun h' hp' hs' =>
  have x₃:Ext k.c none { s₁ with heap:=s₁.heap.push { cls:=.type "slice",data:=.fields #[.none,.none,.none] } } { s₁ with heap:=h' } β₁ β₁ (t.2.set q (.list [])):=.upd x₂.rel g (.head _) (Jd hs') (ZS.mk (vs:=[]) hp' .nil)
  wpAny_release (wpAny_deleteEach_nil ⟨β₁,toL L ((x₁.trans x₂).trans x₃),((L.ext x₁).ext x₂).ext x₃,trivial⟩)⟩
end
end Mine
end
section
namespace Mine
open PySem PySem.W PyProof.Rows PySem.Calls
open Sem (wp)
section
variable {k:Kt} {ll:Ve} {A:Around} {s s₀ s₁ s₂:Shared} {β β₀ β₁:Bt} {H H' H₀ H₁:AH} {ρ ρ':Loc} {p:Fl×Loc×AH}
theorem Ext.iter {c:Cx} {L:Option Addr} {I:Addr} {h':Heap} {t:Nat} {y:Obj} (x:Ext c L s₀ s β₀ β H) (R₀:∀ b o,c.h₀.get? b=some o→s₀.heap.get? b=some o) (hI:s₀.heap.get? I=none) (oI:I∉yp β) (hy:s.heap.get? I=some y)
  (hc:∀ its n,y.data≠.seq its n) (kp:∀ b o,b≠I→s.heap.get? b=some o→h'.get? b=some o):Ext c L s₀ { s with heap:=h',toks:=t } β₀ β H :=
 ⟨x.same.elim fun _ a=>a.elim fun _ e=>⟨h',t,by rw [e]⟩,x.pre,fun b o hL hb e=>kp b o (fun z=>nn (hI.symm.trans (z ▸ e))) (x.keep b o hL hb e),x.fresh,x.tup.trans (.of_but hy (.inr hc) kp),x.rel.but oI (jH R₀ hI) hy hc kp⟩
theorem LR.iter {c:Cx} {lv:List Str} {L I:Addr} {h':Heap} {y:Obj} (R:LR c lv L s.heap β ρ) (hL:L≠I) (hy:s.heap.get? I=some y) (hc:∀ its n,y.data≠.seq its n) (kp:∀ b o,b≠I→s.heap.get? b=some o→h'.get? b=some o):LR c lv L h' β ρ:=by
 obtain ⟨m,⟨ob,es,ep,ho,r⟩,hm⟩:=R.ns
 exact ⟨⟨m,⟨ob,es,ep,kp _ _ hL ho,r⟩,fun i v e=>(hm i v e).elim fun x z=>z.elim fun u z=>⟨x,u,z.1,z.2.1,z.2.2.mono (.of_but hy (.inr hc) kp) (.refl _)⟩⟩,R.off,R.old⟩
noncomputable def RF (k:Kt) (s:Shared) (β:Bt) (p:Fl×Loc×AH):Result→Shared→Prop:=fun r s'=>match r with
 | .ok f=>RS k s β p f s'
 | .error _=>False
noncomputable def zfm (h:Heap) (β:Bt) (b:Addr):Prop:=(∃ o,h.get? b=some o)∧b∉yp β
noncomputable abbrev VO (k:Kt) (i:Nat) (b:List S):AV→Loc→AH→Option (Fl×Loc×AH):=fun v ρ H=>y0 k.G k.Cf b (zf i v ρ) H
inductive Fg (k:Kt) (i:Nat) (s₀:Shared) (β₀:Bt) (b:List S) (p:Fl×Loc×AH) (fp:List Addr) (same:AH→Bool) (xs:List AV) (W:Nat→Shared→Bt→AH→Prop) (n:Nat) (s:Shared):Prop
 | mk (j:Nat) (β:Bt) (H:AH) (ρ:Loc) (hj:j + n=xs.length) (x:Ext k.c (some k.env.locals) s₀ s β₀ β H) (L:LR k.c k.lv k.env.locals s.heap β ρ) (hfp:∀ b∈fp,zfm s.heap β b) (w:W j s β H)
  (ev:Vt (VO k i b) same (xs.drop j) ρ H=some p)
theorem ziB {α:Type} {l:List α} {j n:Nat} (hj:j + n=l.length):(j=l.length∧l.drop j=[])∨∃ v m,n=m + 1∧l[j]?=some v∧l.drop j=v::l.drop (j + 1):=by
 induction n using Nat.casesOn with
 | zero=>exact .inl ⟨hj,List.drop_of_length_le (Nat.le_of_eq hj.symm)⟩
 | succ m =>
  have h:j < l.length:=hj ▸ Nat.lt_add_of_pos_right (Nat.succ_pos m)
  exact .inr ⟨l[j],m,rfl,List.getElem?_eq_getElem h,List.drop_eq_getElem_cons h⟩
theorem zjo {I:Addr} {fp:List Addr} {same:AH→Bool} {xs:List AV} {W:Nat→Shared→Bt→AH→Prop} (wk:Wk k.c A I fp same xs W) {i:Nat} {b:List S} (hfL:k.env.locals∉fp) {h':Heap} {t j m:Nat} {s₄:Shared} {β₄:Bt} (hj:j + (m + 1)=xs.length)
  (hfp₁:∀ b∈fp,zfm s.heap β b) (kp:∀ b o,b≠I→s.heap.get? b=some o→h'.get? b=some o) (w₂:W (j + 1) { s with heap:=h',toks:=t } β H) (x₂:Ext k.c (some k.env.locals) s₀ { s with heap:=h',toks:=t } β₀ β H)
  (x:Ext k.c (some k.env.locals) { s with heap:=h',toks:=t } s₄ β β₄ H₁) (L₄:LR k.c k.lv k.env.locals s₄.heap β₄ ρ) (hs:same H₁=true) (ev:Vt (VO k i b) same (xs.drop (j + 1)) ρ H₁=some p):Fg k i s₀ β₀ b p fp same xs W m s₄:=by
 have hfp':∀ b∈fp,(∃ o,h'.get? b=some o):=fun b hb=>by
  by_cases e:b=I
  ·subst e; exact (wk.isI _ _ _ _ w₂).elim fun o h=>⟨o,h.1⟩
  ·exact (hfp₁ b hb).1.elim fun o ho=>⟨o,kp b o e ho⟩
 have keepfp:∀ b∈fp,∀ o,h'.get? b=some o→s₄.heap.get? b=some o:=fun b hb o e=>x.keep b o (fun z=>hfL (Option.some.inj z ▸ hb)) (hfp₁ b hb).2 e
 exact ⟨j + 1,β₄,H₁,ρ,(Nat.add_right_comm j 1 m).trans hj,x₂.trans x,L₄,fun b hb=>⟨(hfp' b hb).elim fun o ho=>⟨o,keepfp b hb o ho⟩,fun hm=>(hfp' b hb).elim fun o ho=>nn ((x.fresh b hm (hfp₁ b hb).2).2.symm.trans ho)⟩,
  wk.frame (j + 1) _ s₄ β β₄ H H₁ w₂ x.rel x.pre x.tup keepfp hs,ev⟩
theorem zm2 (K:k.Ok' ll) {I:Addr} {fp:List Addr} {same:AH→Bool} {xs:List AV} {W:Nat→Shared→Bt→AH→Prop} (wk:Wk k.c A I fp same xs W) {i:Nat} {x:Str} (ox:okL k.lv k.env.kindOf i x=true) {b:List S} {body:List Stmt} (hb:SXs k ll b)
  (okb:Kw k.N ll k.lv k.env.kindOf b body=true) (hA:RN k.n A) (R₀:∀ b o,k.c.h₀.get? b=some o→s₀.heap.get? b=some o) (hI:s₀.heap.get? I=none) (hfL:k.env.locals∉fp) {px:Pos}
  (x₀:Ext k.c (some k.env.locals) s₀ s β₀ β H) (L:LR k.c k.lv k.env.locals s.heap β ρ) (hfp:∀ b∈fp,zfm s.heap β b) (w:W 0 s β H) (ev:Vt (VO k i b) same xs ρ H=some p) :
  codeAny (model k.c.prog k.c.w) A (.forLoop (.Name x px) (.ref I) body [] k.env) (RF k s₀ β₀ p) s:=by
 refine codeAny_forLoop_any (Fg k i s₀ β₀ b p fp same xs W) (fun n s F=>jI ?_) xs.length (.mk 0 β H ρ (Nat.zero_add _) x₀ L hfp w ev)
 clear w ev hfp L x₀
 obtain ⟨j,β,H,ρ,hj,x₁,L₁,hfp₁,w₁,ev₁⟩:=F
 obtain ⟨y,hy,hyc⟩:=wk.isI _ _ _ _ w₁
 have oI:=(hfp₁ I wk.inI).2
 have neL:k.env.locals≠I:=fun z=>hfL (z ▸ wk.inI)
 rcases ziB hj with ⟨e,hd⟩ | ⟨v,m,e,hq,hd⟩
 ·rw [hd] at ev₁
  rw [e] at w₁
  exact wk.done s β H _ w₁ x₁.rel fun h' t kp=>jI (wpAny_execs_nil (oe (P:=fun p=>RF k s₀ β₀ p (.ok .next) _) ev₁ ⟨β,x₁.iter R₀ hI oI hy hyc kp,L₁.iter neL hy hyc kp,trivial⟩))
 ·subst e
  rw [hd] at ev₁
  refine ob ev₁ fun q h1 h2=>wk.item j s β H v _ w₁ x₁.rel hq fun u h' t rv kp wnext=>?_
  have x₂:Ext k.c (some k.env.locals) s₀ { s with heap:=h',toks:=t } β₀ β H:=x₁.iter R₀ hI oI hy hyc kp
  have tk:zw s.heap h':=.of_but hy (.inr hyc) kp
  refine jI (wpAny_pure (jI (wpAny_assign_Name (Va (s:={ s with heap:=h',toks:=t }) K (L₁.iter neL hy hyc kp) x₂.rel ox (rv.mono tk (.refl _)) fun h2' t2 x₃ same3 L₃=>?_))))
  refine jI (wpAny_mono (hb body okb A { s with heap:=h2',toks:=t2 } β H (zf i v ρ) q hA L₃ x₃.rel h1) (fun f s₄ z=>ZP.casesOn z fun β₄ x₄ L₄ r₄=>?_) fun _ _ e=>e)
  clear hb okb ox K h1
  obtain ⟨f1,ρ1,H₁⟩:=q
  cases f1 with
  | next =>
   cases f with
   | next=>exact ot h2 fun hs h2=>⟨m,Nat.lt_succ_self m,zjo wk hfL hj hfp₁ kp (wnext tk) x₂ (x₃.trans x₄) L₄ hs h2⟩
   | _=>exact False.elim r₄
  | ret z =>
   cases f with
   | ret u=>exact oe (P:=fun p=>RF k s₀ β₀ p (.ok (.ret u)) s₄) h2 ⟨β₄,x₂.trans (x₃.trans x₄),L₄,r₄⟩
   | _=>exact False.elim r₄
theorem zie {e:Expr} (h:zgt e=true) (env:Env) (v:Value):foldedSetIterable e env v=pure v:=by
 cases e <;> first | rfl | exact no h
inductive zav (k:Kt) (A:Around) (i:Nat) (s:Shared) (β:Bt) (b:List S) (p:Fl×Loc×AH) (it:Value) (s₂:Shared):Prop
 | mk {I:Addr} {fp:List Addr} {same:AH→Bool} {xs:List AV} {W:Nat→Shared→Bt→AH→Prop} {β₁:Bt} {H₁:AH} {ρ:Loc} (e:it=.ref I) (wk:Wk k.c A I fp same xs W) (x:Ext k.c (some k.env.locals) s s₂ β β₁ H₁) (L:LR k.c k.lv k.env.locals s₂.heap β₁ ρ)
  (hfp:∀ b∈fp,zfm s₂.heap β₁ b) (hI:s.heap.get? I=none) (hfL:k.env.locals∉fp) (w:W 0 s₂ β₁ H₁) (ev:Vt (VO k i b) same xs ρ H₁=some p)
theorem WJ (K:k.Ok' ll) {i:Nat} {x:Str} (ox:okL k.lv k.env.kindOf i x=true) {b:List S} {body:List Stmt} (hb:SXs k ll b) (okb:Kw k.N ll k.lv k.env.kindOf b body=true) (hA:RN k.n A) {px pos:Pos} {e:Expr}
  (hf:∀ v,foldedSetIterable e k.env v=pure v)
  (h:wpAny (model k.c.prog k.c.w) A (eval e k.env) (fun u s₁=>wpAny (model k.c.prog k.c.w) A (pyIter u) (zav k A i s β b p) No s₁) No s)
  (R:Rel k.c β H s.heap):wpAny (model k.c.prog k.c.w) A (exec (.For (.Name x px) e body [] pos) k.env) (RS k s β p) No s:=by
 refine wpAny_For (wpAny_mono h (fun u s₁ h₁=>wpAny_mono h₁ (fun it s₂ h₂=>?_) fun _ _ e=>e) fun _ _ e=>e) hf
 obtain ⟨e,wk,x₀,L,hfp,hI,hfL,w,ev⟩:=h₂
 subst e
 refine codeAny_mono (zm2 K wk ox hb okb hA R.base hI hfL x₀ L hfp w ev) fun r s' z=>?_
 cases r with
 | ok f=>exact z
 | error=>exact z.elim
theorem Ext.unseen {c:Cx} {b:Addr} (x:Ext c none s s₁ β β₁ H₁) (hb:s₁.heap.get? b=none):s.heap.get? b=none:=by
 cases q:s.heap.get? b with
 | none=>rfl
 | some o =>
  by_cases hf:b∈yp β
  ·obtain ⟨p,hp,hb'⟩:=List.mem_flatMap.mp hf
   obtain ⟨r,hr⟩:=List.mem_iff_getElem?.mp hp
   exact (x.rel.there (zN (x.pre _ _ hr) hb')).elim fun y hy=>nn (hb.symm.trans hy.1)
  ·exact nn (hb.symm.trans (x.keep _ _ nofun hf q))
theorem xr {c:Cx} (x:Ext c none s s₁ β β₁ H₁) {I:Addr} {ob:Obj} (n0:s₁.heap.get? I=none) (n1:s₂.heap.get? I=some ob):zfm s₂.heap β₁ I:=⟨⟨_,n1⟩,fun hm=>(x.rel.there hm).elim fun y hy=>nn (n0.symm.trans hy.1)⟩
theorem ZD (L:LR k.c k.lv k.env.locals s.heap β ρ) (x₁:Ext k.c none s s₁ β β₁ H₁) (x₂:Ext k.c none s₁ s₂ β₁ β₁ H₁) {I:Addr} {ob:Obj} (n0:s₁.heap.get? I=none) (n1:s₂.heap.get? I=some ob) {same:AH→Bool} {xs:List AV} {W:Nat→Shared→Bt→AH→Prop}
  (wk:Wk k.c A I [I] same xs W) (w:W 0 s₂ β₁ H₁) {i:Nat} {b:List S} (ev:Vt (VO k i b) same xs ρ H₁=some p):zav k A i s β b p (.ref I) s₂ :=
 .mk rfl wk (toL L (x₁.trans x₂)) ((L.ext x₁).ext x₂) (fun b hb=>List.mem_singleton.mp hb ▸ xr x₁ n0 n1) (x₁.unseen n0) (fun hm=>(L.ext x₁).there.elim fun o ho=>nn (n0.symm.trans (List.mem_singleton.mp hm ▸ ho))) w ev
theorem zb1 (K:k.Ok' ll) {i:Nat} {it:X} {b:List S} (hit:SE k it) (hb:SXs k ll b) {x:Str} {px pos:Pos} {e:Expr} {body:List Stmt} (o1:okL k.lv k.env.kindOf i x=true) (o2:okE k.N k.lv k.env.kindOf it e=true) (on:zgt e=true) (o3:Kw k.N ll k.lv k.env.kindOf b body=true)
  (hA:RN k.n A) (L:LR k.c k.lv k.env.locals s.heap β ρ) (R:Rel k.c β H s.heap) (ev:((evE k.G k.Cf it ρ H).bind fun p=>(YL p.2 p.1).bind fun q=>Vt (VO k i b) q.2 q.1 ρ p.2)=some p) :
  wpAny (model k.c.prog k.c.w) A (exec (.For (.Name x px) e body [] pos) k.env) (RS k s β p) No s:=by
 refine ob ev fun t h1 h2=>ob h2 fun q h3 h4=>WJ K o1 hb o3 hA (zie on _) (hit.one o2 hA L R h1 fun u s₁ β₁ x₁ r₁=>?_) R
 clear hit hb K o2 h1 h2 ev
 obtain ⟨v1,H₁⟩:=t
 have kp:∀ (ob:Obj) b o,s₁.heap.get? b=some o→(s₁.heap.push ob).get? b=some o:=fun ob b o e=>Heap.get?_push_of_some _ e
 induction v1 using AV.casesOn with
 | tup xs =>
  cases h3
  refine r₁.tupI (P:=fun u=>VR k.c s₁.heap β₁ (.tup xs) u→wpAny (model k.c.prog k.c.w) A (pyIter u) (zav k A i s β b p) No s₁) (fun ad us ht rs r₁=>?_) r₁
  obtain ⟨ob,ho,hc,n,hd⟩:=ht
  refine wpAny_pyIter_tuple (items:=us.toArray) ⟨ob,ho,hc,n,hd⟩ ?_
  have x₂:Ext k.c none s₁ { s₁ with heap:=s₁.heap.push { cls:=.type "tuple_iterator",data:=.fields #[.ref ad,.int 0 0] } } β₁ β₁ H₁:=.grow x₁.rel (kp _)
  have n3:(s₁.heap.push { cls:=.type "tuple_iterator",data:=.fields #[.ref ad,.int 0 0] }).get? s₁.heap.objs.size=some { cls:=.type "tuple_iterator",data:=.fields #[.ref ad,.int 0 0] }:=Heap.get?_push_size _ rfl
  exact ZD L x₁ x₂ zW n3 (zf1 hA.hnd _ ad _) ⟨⟨_,n3,rfl,rfl⟩,x₂.vr r₁⟩ h4
 | obj r =>
  refine xT h3 fun xs hq h3=>?_
  cases h3
  refine x₁.rel.lsI r₁ hq fun ad us g hl rr=>wpAny_pyIter_list hl.isList ?_
  have x₂:Ext k.c none s₁ { s₁ with heap:=s₁.heap.push { cls:=.type "list_iterator",data:=.fields #[.ref ad,.int 0 0] } } β₁ β₁ H₁:=.grow x₁.rel (kp _)
  have n3:(s₁.heap.push { cls:=.type "list_iterator",data:=.fields #[.ref ad,.int 0 0] }).get? s₁.heap.objs.size=some { cls:=.type "list_iterator",data:=.fields #[.ref ad,.int 0 0] }:=Heap.get?_push_size _ rfl
  exact ZD L x₁ x₂ zW n3 (zh3 hA.hnd _ ad _ _) ⟨⟨_,n3,rfl,rfl⟩,g,hq⟩ h4
 | _=>exact nn h3
end
end Mine
end
section
namespace Mine
open PySem PySem.W PyProof.Rows PySem.Calls
open Sem (wp)
section
variable {k:Kt} {ll:Ve} {A:Around} {s s₀ s₁ s₂:Shared} {β β₀ β₁:Bt} {H H' H₀ H₁:AH} {ρ ρ':Loc} {p:Fl×Loc×AH}
theorem zbD {h:Heap} {b:Addr} (hb:h.objs.size≤b):h.get? b=none:=by
 cases q:h.get? b with
 | none=>rfl
 | some o=>exact absurd (Heap.lt_size q) (Nat.not_lt.mpr hb)
theorem xU {n:Int} {t:Tok} {i:Nat} {b:List S} (L:LR k.c k.lv k.env.locals s.heap β ρ) (x₁:Ext k.c none s s₁ β β₁ H₁) (hA:RN k.n A) (hn:-1000≤n∧n≤1000) (ev:Vt (VO k i b) (fun _=>true) (yo n.toNat) ρ H₁=some p) :
  wpAny (model k.c.prog k.c.w) A (pyIter (.ref s₁.heap.objs.size)) (zav k A i s β b p) No { s₁ with heap:=s₁.heap.push { cls:=.type "range",data:=.fields #[.int 0 s₁.toks,.int n t,.int 1 (s₁.toks + 1)] },toks:=s₁.toks + 1 + 1 }:=by
 generalize ho:({ cls:=.type "range",data:=.fields #[.int 0 s₁.toks,.int n t,.int 1 (s₁.toks + 1)] }:Obj)=o
 refine wpAny_pyIter_range (ho ▸ IsRange.new _ 0 n 1 _ _ _) (small_one (by decide) (by decide) (Int.le_trans (by decide) hn.1) (Int.lt_of_le_of_lt hn.2 (by decide))) ?_
 have hsz:Builtin.Range.rangeSize 0 n 1=((n.toNat:Nat):Int) - ((0:Nat):Int):=by
  rw [rangeSize_one]
  split <;> lia
 rw [hsz]
 generalize hr:({ cls:=.type "range_iterator",data:=.fields #[rawInt 0,rawInt (((n.toNat:Nat):Int) - ((0:Nat):Int)),rawInt 1] }:Obj)=r
 have n3:((s₁.heap.push o).push r).get? (s₁.heap.objs.size + 1)=some r:=(congrArg ((s₁.heap.push o).push r).get? (Heap.size_push ..).symm).trans (Heap.get?_push_size _ (by rw [← hr]; rfl))
 exact Heap.size_push s₁.heap o ▸ ZD L x₁ (s₂:={ s₁ with heap:=(s₁.heap.push o).push r,toks:=s₁.toks + 1 + 1 }) (.grow x₁.rel fun b o e=>Heap.get?_push_of_some _ (Heap.get?_push_of_some _ e)) (zbD (Nat.le_succ _)) n3 (zeF hA.hnd _ n.toNat) (hr ▸ n3:IsRangeIter _ _ (0 + ((0:Nat):Int) * 1) _ 1) ev
theorem Z1 (K:k.Ok' ll) {i:Nat} {a:X} {b:List S} (ha:SE k a) (hb:SXs k ll b) {x:Str} {px pos p1 p2:Pos} {e:Expr} {body:List Stmt} (o1:okL k.lv k.env.kindOf i x=true) (o2:okG k.env.kindOf "range"=true)
  (o2':zj e=true) (o3:okE k.N k.lv k.env.kindOf a e=true) (o4:Kw k.N ll k.lv k.env.kindOf b body=true)
  (hA:RN k.n A) (L:LR k.c k.lv k.env.locals s.heap β ρ) (R:Rel k.c β H s.heap)
  (ev:((evE k.G k.Cf a ρ H).bind fun p=>match p.1 with | .int n=>if -1000≤n∧n≤1000 then Vt (VO k i b) (fun _=>true) (yo n.toNat) ρ p.2 else none | _=>none)=some p) :
  wpAny (model k.c.prog k.c.w) A (exec (.For (.Name x px) (.Call (.Name "range" p1) [e] [] p2) body [] pos) k.env) (RS k s β p) No s:=by
 refine ob ev fun t h1 h2=>zjp h2 fun n e1 h2=>og h2 fun hn h2=>?_
 obtain ⟨v1,H₁⟩:=t
 cases (e1:v1=.int n)
 obtain ⟨mb,hbl,_,_,_,_,_,_,m1⟩:=K.base.blt
 refine WJ K o1 hb o4 hA (fun _=>rfl) (Call_Name (zJ (es:=[e]) _ _ (nts e o2')) (Jv K.toOk (R:=R) o2 hbl m1 (by simp) ?_)) R
 refine PyProof.Rows.callWith_type rfl (evalArgs_plain (spliced_cons (ha.one o3 hA L R h1 fun u s₁ β₁ x₁ r₁=>spliced_nil ?_)))
 exact r₁.intI fun t=>call_range_1 (xU L x₁ hA hn h2)
theorem zhy (K:k.Ok' ll) {i:Nat} {it:X} {b:List S} (hi:∀ a,it=.range a→SE k a) (hit:SE k it) (hb:SXs k ll b):SX k ll (.loop i it b):=fun e ok A s β H ρ p hA L R ev=>by
 refine Z7 ok fun w v body o' pos ok=>?_
 obtain ⟨ok,o4⟩:=tt ok
 obtain ⟨ok,o3⟩:=tt ok
 obtain ⟨o0,o1⟩:=tt ok
 cases emp o0
 refine yb (P:=fun w=>wpAny _ A (exec (.For w v body [] pos) k.env) _ _ s) o1 fun x px o1=>?_
 cases it with
 | range a =>
  refine zO (P:=fun v=>wpAny _ A (exec (.For (.Name x px) v body [] pos) k.env) _ _ s) o3 fun y p1 as p2 e1 o2 ok=>?_
  cases e1
  exact Vy (P:=fun as=>wpAny _ A (exec (.For (.Name x px) (.Call (.Name "range" p1) as [] p2) body [] pos) k.env) _ _ s) ok fun e ok=>Z1 K (hi a rfl) hb o1 o2 (tt ok).1 (tt ok).2 o4 hA L R ev
 | _=>exact zb1 K hit hb o1 (tt o3).2 (tt o3).1 o4 hA L R ev
theorem zbS {i:Nat} {ks:List (List Nat)} {b:List S} {u:Value} (L:LR k.c k.lv k.env.locals s.heap β ρ) (hA:RN k.n A) (z:zhr k.c s β H ks u s₁) (ev:Vt (VO k i b) (fun _=>true) (ks.map .str) ρ H=some p):wpAny (model k.c.prog k.c.w) A (pyIter u) (zav k A i s β b p) No s₁:=by
 obtain ⟨e1,hs,x₁,nd,nh,ns,hd,hk⟩:=z
 subst e1
 refine wpAny_pyIter_dict (knd:=strKind k.c.prog k.c.w) hs hd ?_
 rename_i d kvs ep
 generalize ho:({ cls:=.type "dict_keyiterator",data:=.fields #[.ref d,.int 0 0,.int kvs.length 0,.int ep 0] }:Obj)=o
 have kp:∀ b y,s₁.heap.get? b=some y→(s₁.heap.push o).get? b=some y:=fun b y e=>Heap.get?_push_of_some _ e
 have x₂:Ext k.c none s₁ { s₁ with heap:=s₁.heap.push o } β β H:=.grow x₁.rel kp
 have n3:(s₁.heap.push o).get? s₁.heap.objs.size=some o:=Heap.get?_push_size _ (by rw [← ho]; rfl)
 obtain ⟨od,esd,hod,rest⟩:=hd
 have hne:d≠s₁.heap.objs.size:=fun z=>nn (zW.symm.trans (z ▸ hod))
 exact .mk rfl (zii hA.hnd _ d hne kvs ep ks hk) (toL L (x₁.trans x₂)) ((L.ext x₁).ext x₂) (fun b hb=>(List.mem_cons.mp hb).elim (fun e=>e ▸ xr x₁ zW n3) fun hb=>List.mem_singleton.mp hb ▸ ⟨⟨_,kp _ _ hod⟩,nd⟩) (x₁.unseen zW)
  (fun hm=>(List.mem_cons.mp hm).elim (fun e=>(L.ext x₁).there.elim fun o ho=>nn (zW.symm.trans (e ▸ ho))) fun hm=>L.there.elim fun o ho=>nn (ns.symm.trans (List.mem_singleton.mp hm ▸ ho))) ⟨⟨_,n3,by rw [← ho],by rw [← ho]; rfl⟩,⟨od,esd,kp _ _ hod,rest⟩⟩ ev
theorem zgw (K:k.Ok' ll) {i f:Nat} {ks:List (List Nat)} {b:List S} (hb:SXs k ll b):SX k ll (.loopK i f ks b):=fun e ok A s β H ρ p hA L R ev=>by
 refine Z7 ok fun w v body o' pos ok=>?_
 obtain ⟨ok,o4⟩:=tt ok
 obtain ⟨ok,o3⟩:=tt ok
 obtain ⟨ok,o2⟩:=tt ok
 obtain ⟨o0,o1⟩:=tt ok
 cases emp o0
 refine yb (P:=fun w=>wpAny _ A (exec (.For w v body [] pos) k.env) _ _ s) o1 fun x px o1=>?_
 refine zO (P:=fun v=>wpAny _ A (exec (.For (.Name x px) v body [] pos) k.env) _ _ s) o2 fun y p1 as p2 e1 o2 ok=>?_
 cases emp ok
 obtain ⟨mg,hg,_,m1,_⟩:=K.base.glob
 obtain ⟨⟨of,fd,hof,hdf,_⟩,hlit⟩:=K.lit f ks (eq_of_beq o3)
 refine WJ K o1 hb o4 hA (fun _=>rfl) (Call_Name0 (Vc K.toOk (R:=R) o2 hg (m1 f y e1) ?_)) R
 refine callWith_function (o:=of) (fd:=fd) (evalArgs_nil3 ⟨⟨R.base _ _ hof,hdf⟩,?_⟩)
 exact wpAny_mono (Yx (hlit A s β H hA.rc R)) (fun u s₁ z=>zbS L hA z ev) fun _ _ e=>e
inductive Wg (k:Kt) (t:X) (b:List S) (s:Shared) (β:Bt) (p:Fl×Loc×AH) (n:Nat) (s₁:Shared):Prop
 | mk (β₁:Bt) (H₁:AH) (ρ₁:Loc) (x:Ext k.c (some k.env.locals) s s₁ β β₁ H₁) (L:LR k.c k.lv k.env.locals s₁.heap β₁ ρ₁) (ev:jT (tst k.G k.Cf t) (y0 k.G k.Cf b) n ρ₁ H₁=some p)
theorem zeQ (K:k.Ok' ll) {t:X} {b:List S} (ht:ST k t) (hb:SXs k ll b):SX k ll (.while t b):=fun e ok A s β H ρ p hA L R ev=>by
 refine zdv ok fun v body o' pos ok=>?_
 obtain ⟨ok,o2⟩:=tt ok
 obtain ⟨o0,o1⟩:=tt ok
 cases emp o0
 refine wpAny_While (codeAny_mono (R:=RF k s β p) (codeAny_whileLoop (Wg k t b s β p) (fun n s₁ z=>jI ?_) 100 ⟨β,H,ρ,.refl R,L,ev⟩) fun r s' z=>?_)
 ·obtain ⟨β₁,H₁,ρ₁,x₁,L₁,ev₁⟩:=z
  clear L R ev
  induction n using Nat.casesOn with
  | zero=>exact nn ev₁
  | succ n =>
   refine ht.use o1 hA L₁ x₁.rel ev₁ fun r H₂ s₂ β₂ x₂ h2=>?_
   induction r using Bool.casesOn with
   | false=>exact jI (wpAny_execs_nil (oe (P:=fun p=>RF k s β p (.ok .next) s₂) h2 ⟨β₂,x₁.trans (toL L₁ x₂),L₁.ext x₂,trivial⟩))
   | true =>
    refine ob h2 fun q h3 h4=>jI (wpAny_mono (hb body o2 A s₂ β₂ H₂ ρ₁ q hA (L₁.ext x₂) x₂.rel h3) (fun f s₃ z=>ZP.casesOn z fun β₃ x₃ L₃ r₃=>?_) fun _ _ e=>e)
    have x₁₃:=(x₁.trans (toL L₁ x₂)).trans x₃
    clear ht hb h3 h2 ev₁ L₁ x₁ x₂ x₃
    obtain ⟨f1,ρ2,H₃⟩:=q
    cases f1 with
    | next=>cases f with
     | next=>exact ⟨n,Nat.lt_succ_self n,β₃,H₃,ρ2,x₁₃,L₃,h4⟩
     | _=>exact False.elim r₃
    | ret w=>cases f with
     | ret u=>exact oe (P:=fun p=>RF k s β p (.ok (.ret u)) s₃) h4 ⟨β₃,x₁₃,L₃,r₃⟩
     | _=>exact False.elim r₃
 ·cases r with
  | ok f=>exact z
  | error=>exact z.elim
theorem zmW:SX k ll .bad:=fun _ _ _ _ _ _ _ _ _ _ _ ev=>nn ev
end
mutual
theorem sS {k:Kt} {ll:Ve} (K:k.Ok' ll):∀ st:S,SX k ll st
 | .expr a=>zhT K.toOk (sE K.toOk a)
 | .set (.name _) a=>zje K (sE K.toOk a)
 | .set (.attr o _) a=>zhl K (sE K.toOk o) (sE K.toOk a)
 | .set (.idx o i) a=>zkl K (sE K.toOk o) (sE K.toOk i) (sE K.toOk a)
 | .set (.names _) a=>zgd K (sE K.toOk a)
 | .augA o _ _ a=>zi2 K (sE K.toOk o) (sE K.toOk a)
 | .augN _ _ a=>zjh K (sE K.toOk a)
 | .ite t b o=>zmg (sT K.toOk t) (sSs K b) (sSs K o)
 | .loop _ it b=>zhy K (fun a _=>sE K.toOk a) (sE K.toOk it) (sSs K b)
 | .loopK _ _ _ b=>zgw K (sSs K b)
 | .while t b=>zeQ K (sT K.toOk t) (sSs K b)
 | .ret a=>zmv (sE K.toOk a)
 | .delAll o=>zd8 (sE K.toOk o)
 | .bad=>zmW
theorem sSs {k:Kt} {ll:Ve} (K:k.Ok' ll):∀ sts:List S,SXs k ll sts
 | []=>ziM
 | st::sts=>zeS (sS K st) (sSs K sts)
end
end Mine
end
section
namespace Mine
open PySem PySem.W PyProof.Rows PySem.Calls
open Sem (wp)
inductive jQ (c:Cx) (N:Nm) (ll:Ve) (f n:Nat) (body:List S):Prop
 | mk (o:Obj) (fd:FuncData) (Sb:List Stmt) (lv:List Str) (ho:c.h₀.get? (c.fn f)=some o) (hd:o.data=.func fd) (ht:typeIn c.K (.ref (c.fn f))=some (.type "function")) (hcr:c.h₀.CodeRec fd.code fd.qualname) (hb:fd.body=.stmts Sb)
  (hbind:∀ us:List Value,us.length=n→bindArgs fd ⟨us,[]⟩=pure ((lv.take n).zip us)) (hn:n≤lv.length) (hnd:lv.Nodup) (hcell:∀ x∈fd.scope.names,x.2≠.cell) (hloc:∀ x∈lv.take n,fd.scope.names.lookup x=some .local)
  (hco:fd.scope.isCoroutine=false) (hgen:fd.scope.isGenerator=false) (hk:fd.scope.kind=.function) (hg:fd.globals=c.gl) (hbi:fd.builtins=c.bi) (hok:Kw N ll lv (fun x=>fd.scope.names.lookup x) body Sb=true)
section
variable {c:Cx} {N:Nm} {ll:Ve} {G:Kb} {s s':Shared} {β β':Bt} {H H':AH}
theorem Ext.leave {L:Addr} {h₁:Heap} {t:Nat} (kp:∀ b o,s.heap.get? b=some o→h₁.get? b=some o) (hL:s.heap.get? L=none) (x:Ext c (some L) { s with heap:=h₁,toks:=t } s' β β' H'):Ext c none s s' β β' H' :=
 ⟨x.same.elim fun a y=>y.elim fun b e=>⟨a,b,e⟩,x.pre,fun b o _ hb e=>x.keep b o (fun z=>nn (hL.symm.trans (Option.some.inj z ▸ e))) hb (kp b o e),fun b hb hn=>⟨nofun,by
  cases q:s.heap.get? b with
  | none=>rfl
  | some o=>exact nn ((x.fresh b hb hn).2.symm.trans (kp b o q))⟩,(zw.of_keep kp).trans x.tup,x.rel⟩
theorem zb2 {α β:Type} [BEq α] [LawfulBEq α] {x:α} {l r:List (α×β)}:(l++r).lookup x=(l.lookup x).or (r.lookup x):=by
 induction l with
 | nil=>rfl
 | cons p l ih =>
  rw [List.cons_append,List.lookup_cons,List.lookup_cons]
  cases x == p.1 with
  | true=>rfl
  | false=>exact ih
theorem zcj {x:Str} {u:Value} {ns:List Str}:∀ {us:List Value} {i:Nat},ns.Nodup→ns.length=us.length→ns[i]?=some x→us[i]?=some u→(ns.zip us).reverse.lookup x=some u:=by
 induction ns with
 | nil=>exact fun _ _ h _=>nn h
 | cons n ns ih =>
  intro us i nd hl h1 h2
  induction us using List.casesOn with
  | nil=>exact nn h2
  | cons v us =>
   rw [List.nodup_cons] at nd
   rw [List.zip_cons_cons,List.reverse_cons,zb2]
   induction i using Nat.casesOn with
   | zero =>
    have:(ns.zip us).reverse.lookup n=none:=List.lookup_eq_none_iff.mpr fun p hp=>bne_iff_ne.mpr fun z=>nd.1 (z ▸ (List.of_mem_zip (List.mem_reverse.mp hp)).1)
    rw [← (Option.some.inj h1:n=x),← (Option.some.inj h2:v=u),this]
    show ([(n,v)]:List (Str×Value)).lookup n=_
    rw [List.lookup_cons,beq_self_eq_true]
   | succ i=>rw [ih nd.2 (Nat.succ.inj hl) h1 h2]; rfl
theorem ja (i:Nat) (vs:List AV):∀ j,zc (j + i) (yt j vs)=vs[i]?:=by
 induction vs generalizing i with
 | nil=>exact fun _=>rfl
 | cons v vs ih =>
  intro j
  show zc (j + i) ((j,v)::yt (j + 1) vs)=_
  induction i using Nat.casesOn with
  | zero=>exact Jh
  | succ i =>
   rw [yC (Nat.ne_of_lt (Nat.lt_add_of_pos_right (Nat.succ_pos i))),show j + (i + 1)=j + 1 + i from (Nat.add_right_comm j 1 i).symm ▸ rfl]
   exact ih i (j + 1)
theorem zf6 {lv:List Str} {n:Nat} {args:List AV} {us:List Value} {h₁:Heap} {L:Addr} (R:Rel c β H s.heap) (hu:VRs c s.heap β args us) (hl:args.length=n) (hn:n≤lv.length) (hnd:lv.Nodup) (hns:h₁.Ns L fun x=>(((lv.take n).zip us).reverse.lookup x))
  (kp:∀ b o,s.heap.get? b=some o→h₁.get? b=some o) (hL:s.heap.get? L=none):LR c lv L h₁ β (yt 0 args):=by
 refine ⟨⟨_,hns,fun i v e=>?_⟩,fun hm=>(R.there hm).elim fun y hy=>nn (hL.symm.trans hy.1),jH R.base hL⟩
 rw [← Nat.zero_add i,ja] at e
 obtain ⟨u,hu1,hu2⟩:=hu.get e
 have hi:i < n:=hl ▸ (List.getElem?_eq_some_iff.mp e).1
 have hx:(lv.take n)[i]?=some (lv[i]'(Nat.lt_of_lt_of_le hi hn)):=(List.getElem?_take_of_lt hi).trans (List.getElem?_eq_getElem _)
 exact ⟨_,u,List.getElem?_eq_getElem (Nat.lt_of_lt_of_le hi hn),zcj (hnd.sublist (List.take_sublist ..)) (by rw [List.length_take,Nat.min_eq_left hn,hu.length,hl]) hx hu1,hu2.mono (.of_keep kp) (.refl _)⟩
theorem Zr (B:Bk c N G) {Cf:zi} {d:Nat} (C:CS c Cf d) (lits:∀ f ks,ll f=some ks→xd c f ks d) {f n:Nat} {body:List S} (fo:jQ c N ll f n body) {args:List AV} (hl:args.length=n) {fl:Fl} {ρ':Loc}
  (ev:y0 G Cf body (yt 0 args) H=some (fl,ρ',H')) {A:Around} {us:List Value} (hA:RC (d + 1) A) (R:Rel c β H s.heap) (hu:VRs c s.heap β args us) :
  codeAny (model c.prog c.w) A (.call (.ref (c.fn f)) ⟨us,[]⟩) (OkV (Res c s β H' (match fl with | .ret v=>v | .next=>.none))) s:=by
 obtain ⟨o,fd,Sb,lv,ho,hd,_,hcr,hb,hbind,hn,hnd,hcell,hloc,hco,hgen,hk,hg,hbi,hok⟩:=fo
 refine codeAny_call_def (show A.depth < 1000 from Nat.lt_of_le_of_lt (Nat.le_trans (Nat.le_add_right _ _) hA.dep) (by decide)) (R.base _ _ ho) hd (B.lim.keeps R.base) (hcr.keeps R.base) hb (.of_eq (hbind us (hu.length.trans hl))) hcell (fun x hx=>hloc _ (List.of_mem_zip hx).1) (fun h₁ hns kp=>?_) hco hgen hk
 have K:(⟨c,N,G,Cf,d,lv,callEnv fd s.heap.objs.size (c.fn f)⟩:Kt).Ok' ll:=⟨⟨B,C,hk,hg,hbi⟩,hnd,lits⟩
 refine jI (wpAny_mono (sSs K body Sb hok (A.deeper _) _ β H (yt 0 args) (fl,ρ',H') (hA.deeper _) (zf6 R hu hl hn hnd hns kp zW) (R.grow kp) ev) (fun fw s₂ z=>ZP.casesOn z fun β₂ x₂ L₂ r₂=>?_) fun _ _ e=>e)
 have x:Ext c none s s₂ β β₂ H':=Ext.leave kp zW x₂
 clear K hok hns ev x₂ L₂ hcell hloc hbind
 cases fl with
 | next=>cases fw with
  | next=>exact ⟨β₂,x,.none⟩
  | _=>exact False.elim r₂
 | ret v=>cases fw with
  | ret u=>exact ⟨β₂,x,r₂⟩
  | _=>exact False.elim r₂
theorem zdr {F:Nat→Option (Nat×List S)} {d f:Nat} {args:List AV} {v:AV} {P:AV→AH→Prop} (e:Kq G F (d + 1) f args H=some (v,H'))
  (nx:∀ n body fl ρ' H₁,F f=some (n,body)→args.length=n→y0 G (Kq G F d) body (yt 0 args) H=some (fl,ρ',H₁)→P (match fl with | .ret v=>v | .next=>.none) H₁):P v H':=by
 refine ob (show (F f).bind (zkk (y0 G (Kq G F d)) args H)=some (v,H') from e) fun q hF e=>?_
 have e:(match Nat.beq args.length q.1 with | false=>none | true=>(y0 G (Kq G F d) q.2 (yt 0 args) H).map fun p=>(match p.1 with | .ret v=>v | .next=>.none,p.2.2))=some (v,H'):=e
 revert e
 cases hl:Nat.beq args.length q.1 with
 | false=>exact fun e=>nn e
 | true=>exact fun e=>om (P:=fun p=>P p.1 p.2) e fun p h=>nx q.1 q.2 p.1 p.2.1 p.2.2 hF (Nat.eq_of_beq_eq_true hl) h
theorem zaX (B:Bk c N G) {F:Nat→Option (Nat×List S)} (lits:∀ d f ks,ll f=some ks→xd c f ks (d + 1)) (fns:∀ f n body,F f=some (n,body)→jQ c N ll f n body):∀ d,CS c (Kq G F d) (d + 1):=by
 intro d
 induction d with
 | zero=>intro f args H v H' e; exact nn e
 | succ d ih =>
  intro f args H v H' e
  refine zdr (P:=fun v H'=>jZ c f∧∀ A s β us,RC (d + 1 + 1) A→Rel c β H s.heap→VRs c s.heap β args us→codeAny (model c.prog c.w) A (.call (.ref (c.fn f)) ⟨us,[]⟩) (OkV (Res c s β H' v)) s) e fun n body fl ρ' H₁ hF hl h=>?_
  have fo:=fns f n body hF
  exact ⟨by obtain ⟨o,fd,Sb,lv,ho,hd,ht⟩:=fo; exact ⟨o,fd,ho,hd,ht⟩,fun A s β us hA R hu=>Zr B ih (lits d) fo hl h hA R hu⟩
end
end Mine
end
section
namespace Mine
open PySem PySem.W PyProof.Rows PySem.Calls
open Sem (wp)
section
variable {c:Cx} {h h₀:Heap} {β β':Bt}
theorem VR.objB {r:Nat} {u:Value} (a:VR c h₀ β (.obj r) u):∃ q,β[r]?=some q:=by cases a with | obj e=>exact ⟨_,e⟩
theorem VR.back (p:Pre β β') {x:AV} {v:Value} (a:VR c h β' x v):(∃ u,VR c h₀ β x u)→VR c h β x v :=
 a.rec (motive_1:=fun x v _=>(∃ u,VR c h₀ β x u)→VR c h β x v) (motive_2:=fun xs vs _=>(∃ us,VRs c h₀ β xs us)→VRs c h β xs vs) (fun _=>.none) (fun b _=>.bool b) (fun i t _=>.int i t) (fun cs t _=>.str cs t)
  (fun e z=>z.elim fun _ z=>z.objB.elim fun q hq=>.obj (hq.trans ((p _ _ hq).symm.trans e))) (fun j _=>.cst j) (fun t _ q z=>.tup t (q (z.elim fun _ z=>z.tupI fun _ us _ r=>⟨us,r⟩))) (fun _=>.nil)
  fun _ _ q1 q2 z=>z.elim fun _ z=>z.consI fun u us a r=>.cons (q1 ⟨u,a⟩) (q2 ⟨us,r⟩)
theorem VRs.back (p:Pre β β') {x:List AV} {v:List Value} (a:VRs c h β' x v):(∃ us,VRs c h₀ β x us)→VRs c h β x v :=
 a.ind (fun _=>.nil) fun a _ q z=>z.elim fun _ z=>z.consI fun u us b r=>.cons (a.back p ⟨u,b⟩) (q ⟨us,r⟩)
theorem FR.vals {es:List DictEntry} {fs:List (Nat×AV)} (a:FR c h₀ β es fs):∀ e∈fs,∃ u,VR c h₀ β e.2 u:=by
 induction a with
 | nil=>exact fun e h=>nomatch h
 | cons _ y _ ih=>exact fun e h=>(List.mem_cons.mp h).elim (fun z=>z ▸ ⟨_,y⟩) (ih e)
theorem FR.back (p:Pre β β') {es:List DictEntry} {fs:List (Nat×AV)} (b:FR c h β' es fs):(∀ e∈fs,∃ u,VR c h₀ β e.2 u)→FR c h β es fs:=by
 induction b with
 | nil=>exact fun _=>.nil
 | cons k x _ ih=>exact fun v=>.cons k (x.back p (v _ (.head _))) (ih fun e he=>v e (.tail _ he))
theorem DR.vals {K:Type} {enc:K→AV} {es:List (AV×AV)} {fs:List (K×Value)} (a:DR c enc h₀ β es fs):∀ e∈es,∃ u,VR c h₀ β e.2 u:=by
 induction a with
 | nil=>exact fun e h=>nomatch h
 | cons y _ ih=>exact fun e h=>(List.mem_cons.mp h).elim (fun z=>z ▸ ⟨_,y⟩) (ih e)
theorem DR.back {K:Type} {enc:K→AV} (p:Pre β β') {es:List (AV×AV)} {fs:List (K×Value)} (b:DR c enc h β' es fs):(∀ e∈es,∃ u,VR c h₀ β e.2 u)→DR c enc h β es fs:=by
 induction b with
 | nil=>exact fun _=>.nil
 | cons x _ ih=>exact fun v=>.cons (x.back p (v _ (.head _))) (ih fun e he=>v e (.tail _ he))
theorem OAt.back (p:Pre β β') {q:Addr×Option Addr} {o:AO} (x:OAt c h₀ β q o) (y:OAt c h β' q o):OAt c h β q o:=by
 induction o using AO.casesOn with
 | list xs=>exact y.lsI fun _ _ hl r=>ZS.mk hl (r.back p (x.lsI fun _ us _ r=>⟨us,r⟩))
 | dict kd es =>
  induction kd using Option.casesOn with
  | none=>exact y
  | some kd =>
   cases kd with
   | int=>exact y.itI fun _ _ d r=>Wu.mk d (r.back p (x.itI fun _ _ _ r=>r.vals))
   | str=>exact y.srI fun _ _ d r=>Wu.mk d (r.back p (x.srI fun _ _ _ r=>r.vals))
   | tup=>exact y.tpI fun _ _ d r=>zd3.mk d (r.back p (x.tpI fun _ _ _ r=>r.vals))
 | inst m fs=>exact y.inI fun _ _ _ _ h1 h2 r=>zbB.mk h1 h2 (r.back p (x.inI fun _ _ _ _ _ _ r=>r.vals))
end
section
variable {c:Cx} {N:Nm} {G:Kb} {s s':Shared} {β:Bt} {H:AH}
theorem DR.keys {h:Heap} {es:List (AV×AV)} {kvs:List (Str×Value)} (z:DR c zmJ h β es kvs):∀ {ks:List (List Nat)},es.map (·.1)=ks.map .str→kvs.map (·.1)=ks.map zh:=by
 induction z with
 | nil=>exact fun {ks} e=>by cases ks with | nil=>rfl | cons=>exact nomatch e
 | @cons k x v es kvs _ _ ih =>
  intro ks e
  induction ks using List.casesOn with
  | nil=>exact nomatch e
  | cons a ks =>
   have e:=List.cons.inj e
   exact congr (congrArg List.cons (congrArg zh (AV.str.inj e.1))) (ih e.2)
theorem zjm {s s':Shared} {β':Bt} {o:AO} (R:Rel c β H s.heap) (x:Ext c none s s' β β' (H++[o])):Ext c none s s' β β H :=
 ⟨x.same,.refl _,x.keep,fun _ h h'=>absurd h h',x.tup,⟨R.len,fun r p o e1 e2=>(R.at_ r p o e1 e2).back x.pre (x.rel.at_ r p o (x.pre _ _ e1) (by rw [List.getElem?_append_left (WV e2)]; exact e2)),x.rel.base,R.off,R.nd⟩⟩
theorem zkg (B:Bk c N G) {f:Nat} {body:List S} (fo:jQ c N (fun _=>none) f 0 body) {ks:List (List Nat)} {es:List (AV×AV)} (hk:es.map (·.1)=ks.map .str)
  (ev:∀ H,∃ ρ',y0 G (fun _ _ _=>none) body [] H=some (.ret (.obj H.length),ρ',H++[.dict (some .str) es])) (n:Nat):xd c f ks (n + 1):=by
 refine ⟨by obtain ⟨o,fd,Sb,lv,ho,hd,ht⟩:=fo; exact ⟨o,fd,ho,hd,ht⟩,fun A s β H hA R=>(ev H).elim fun ρ' e=>?_⟩
 have call:=Zr (d:=0) B (Cf:=fun _ _ _=>none) (fun _ _ _ _ _ z=>nn z) (fun _ _ z=>nn z) fo (args:=[]) rfl e (A:=A) (s:=s) (β:=β) (us:=[])
  ⟨hA.hnd,Nat.le_trans (Nat.add_le_add_left (Nat.mul_le_mul_left 4 (Nat.le_add_left 1 n)) _) hA.dep,Nat.le_trans (Nat.add_le_add_left (Nat.mul_le_mul_left 30 (Nat.le_add_left 1 n)) _) hA.uni⟩ R .nil
 refine codeAny_mono call fun r s' z=>?_
 clear call e ev fo
 cases r with
 | error=>exact z
 | ok f =>
  cases f with
  | ret u =>
   obtain ⟨β',x,v⟩:=(z:Res c s β (H++[.dict (some .str) es]) (.obj H.length) u s')
   refine Rel.obI (P:=fun u=>VR c s'.heap β' (.obj H.length) u→zhr c s β H ks u s') x.rel v (KC H _ rfl) (fun q g hat v=>?_) v
   refine OAt.srI (P:=fun q=>β'[H.length]?=some q→zhr c s β H ks (.ref q.1) s') hat (fun d kvs dk dr g=>?_) g
   have hd:d∈yp β':=zN g (.head _)
   have nd:d∉yp β:=fun hm=>by
    obtain ⟨q,hq,hb⟩:=List.mem_flatMap.mp hm
    obtain ⟨r,hr⟩:=List.mem_iff_getElem?.mp hq
    have e:=Vs x.rel.nd (x.pre _ _ hr) g hb (.head _)
    exact absurd (WV hr) (by rw [e,R.len]; exact Nat.lt_irrefl _)
   obtain ⟨o,es',ep,rest⟩:=dk
   exact .mk rfl (Ju B.toBs x.rel g) (zjm R x) nd (x.rel.off d hd) (x.fresh d hd nd).2 ⟨o,es',rest⟩ (dr.keys hk)
  | _=>exact z.elim
end
end Mine
end
section
open PySem PySem.W PyProof.Rows
namespace Mine.Hd
noncomputable section
noncomputable abbrev P0:Program:=PySem.Challenge.pw_qd0045_01
noncomputable abbrev p00:Pos:={ line:=0,col:=0,endLine:=0,endCol:=0 }
noncomputable def zy:List Stmt:=behindTheImports P0
noncomputable def zbv:Env:={ scope:=P0.main.scope,locals:=mainNs,globals:=mainNs,cells:=[],code:=.ref 13,frame:=some 14 }
noncomputable def sts (a c:Nat):List Stmt:=(zy.drop a).take c
noncomputable def nth:List Stmt→Nat→Stmt
 | [],_=>.Pass p00
 | s::_,0=>s
 | _::r,n + 1=>nth r n
noncomputable def top (i:Nat):Stmt:=nth zy i
noncomputable def asF {α:Type} (s:Stmt) (d:α) (f:Arguments→List Stmt→Scope→α):α:=if q:Nat.beq s.ctorIdx 0=true then Stmt.FunctionDef.elim (motive_2:=fun _=>α) s (Nat.eq_of_beq_eq_true q) (fun _ a b _ _ _ c _ _ _=>f a b c) else d
noncomputable def zbi (s:Stmt):List Stmt:=if q:Nat.beq s.ctorIdx 2=true then Stmt.ClassDef.elim (motive_2:=fun _=>List Stmt) s (Nat.eq_of_beq_eq_true q) (fun _ _ _ b _ _ _ _ _ _ _=>b) else asF s [] fun _ b _=>b
noncomputable def zgP (s:Stmt):Arguments:=asF s ⟨[],[],none,[],[],none,[]⟩ fun a _ _=>a
noncomputable def zcU (s:Stmt):Scope:=asF s ⟨.module,[],false,false,[]⟩ fun _ _ c=>c
noncomputable def sub (i j:Nat):Stmt:=nth (zbi (top i)) j
noncomputable abbrev I (i:Nat):Value:=.int (.ofNat i) 0
noncomputable abbrev V (i t:Nat):Value:=.int (.ofNat i) t
noncomputable abbrev W (i t:Nat):Value:=.int (.negSucc i) t
noncomputable abbrev S (x:String) (t:Tok):Value:=.str (Str.ofString x) t
noncomputable abbrev R (a:Addr):Value:=.ref a
noncomputable abbrev E (P:Params) (x:String) (t:Tok) (v:Value):DictEntry:=⟨PyData.keyHash P (Str.ofString x),.str (Str.ofString x) t,v⟩
noncomputable abbrev T (xs:Array Value):Obj:={ cls:=.type "tuple",data:=.seq xs 0 }
noncomputable abbrev C (xs:Array Value):Obj:={ cls:=.type "code",data:=.fields xs }
noncomputable abbrev N (xs:Array Value):Obj:={ cls:=.none,data:=.fields xs }
noncomputable abbrev O (c:Value) (d:Data):Obj:={ cls:=c,data:=d }
noncomputable abbrev fn (s:Stmt) (name qual:String) (g:Addr) (cl:List (Str×Addr)) (df kd doc pm:Value) (an:Option Addr) (code ct:Value) (b:Addr):FuncData :=
 ⟨Str.ofString name,Str.ofString qual,zgP s,.stmts (zbi s),zcU s,g,cl,df,kd,doc,pm,an,code,ct,b⟩
noncomputable def zbV:BT→List (Nat×Obj)→BT
 | t,[]=>t
 | t,(i,o)::r=>zbV (t.ins i o) r
noncomputable def ss:List String→Nat→List Value
 | [],_=>[]
 | x::r,t=>S x t::ss r (t + 1)
noncomputable def fb (a:Nat) (s:Stmt) (f q:String) (t l n:Nat) (ns:List String) (m:Value) (r:List (Nat×Obj)):List (Nat×Obj) :=
 (a,T #[])::(a + 1,N #[])::(a + 2,T (ss ns (t + 3)).toArray)::(a + 3,T #[])::(a + 4,O .none (.func (fn s f q 0 [] .none .none .none .none none .none .none 0))) ::
 (a + 5,C #[S f t,S q (t + 1),S "/claim/cut.py" (t + 2),I l,I n,I 0,I 0,I 3,R a,.bool true,I 181,R (a + 1),.none,R (a + 2),R (a + 3),R (a + 4),I (t + 3 + ns.length),I l,S "/claim/cut.py" (t + 4 + ns.length)]) ::
 (a + 6,O (.type "function") (.func (fn s f q 3 [] .none .none .none m none (R (a + 5)) .none 0)))::r
noncomputable abbrev mm0:Value:=S "__main__" 164
noncomputable abbrev mm1:Value:=S "framerune.faults" 194
noncomputable abbrev mm2:Value:=S "framerune.kinds" 251
noncomputable abbrev mm3:Value:=S "framerune.values" 637
noncomputable abbrev mm4:Value:=S "framerune.heap" 775
noncomputable abbrev mm5:Value:=S "framerune.places" 955
noncomputable abbrev mm6:Value:=S "framerune.mbase" 1054
noncomputable abbrev mm7:Value:=S "framerune.store" 1576
noncomputable abbrev mm8:Value:=S "framerune.mfield" 1622
noncomputable abbrev mm9:Value:=S "framerune.mmem" 1674
noncomputable abbrev zU:Value:=S "law_qd0045_01" 1895
set_option genInjectivity false in
structure FR where
 a:Nat
 s:Stmt
 f:String
 q:String
 o:Option String
 t:Nat
 l:Nat
 n:Nat
 ns:List String
 m:Value
noncomputable abbrev ft (a i:Nat) (f:String) (t l n:Nat) (ns:List String) (m:Value):FR:=⟨a,top i,f,f,some f,t,l,n,ns,m⟩
noncomputable abbrev fs (a i j:Nat) (f q:String) (t l n:Nat) (ns:List String) (m:Value):FR:=⟨a,sub i j,f,q,none,t,l,n,ns,m⟩
noncomputable abbrev ts (a t:Nat) (l:List String) (r:List (Nat×Obj)):=(a,T (ss l t).toArray)::r
noncomputable abbrev ni (a:Nat) (l:List (Nat×Nat)) (r:List (Nat×Obj)):=(a,N (l.flatMap fun x=>[I x.1,I 4,R x.2]).toArray)::r
noncomputable abbrev es (P:Params) (l:List (String×Nat×Value)):List DictEntry:=l.map fun x=>E P x.1 x.2.1 x.2.2
noncomputable abbrev DL:=Params→List (Nat×Obj)
noncomputable abbrev tE (a:Nat) (r:List (Nat×Obj)):=(a,T #[])::r
noncomputable abbrev fr (a c d:Nat) (m:Value) (r:List (Nat×Obj)):=(a,({ cls:=.type "frame",dict:=none,data:=.plain,slots:=#[some (R c),some (R 3),some (R d),none,some m,none,some (R 0)] }:Obj))::r
noncomputable abbrev su (a c:Nat) (r:List (Nat×Obj)):=(a,O (.type "super") (.fields #[R c,R c,R c]))::r
noncomputable abbrev ci (a c:Nat) (r:List (Nat×Obj)):=(a,O (.type "builtin_function_or_method") (.fields #[.builtin "object.__init_subclass__",R c]))::r
noncomputable abbrev kp (a:Nat) (r:List (Nat×Obj)):=(a,O (.type "builtin_function_or_method") (.fields #[.builtin "type.__prepare__",.type "type"]))::r
noncomputable abbrev cc (a:Nat) (n:String) (t l c m:Nat) (r:List (Nat×Obj)):=(a,C #[S n t,S n (t + 1),S "/claim/cut.py" (t + 2),I l,I 0,I 0,I 0,I 0,R c,.bool false,I 181,R m,.none,.none,.none,.none,I (t + 3),I l,S "/claim/cut.py" (t + 4)])::r
noncomputable abbrev gd (a t c:Nat) (r:List (Nat×Obj)):=(a,O (.type "getset_descriptor") (.fields #[S "__dict__" t,R c,.builtin "function.__dict__",.builtin "function.__dict__#set"]))::r
noncomputable abbrev gw (a t c:Nat) (r:List (Nat×Obj)):=(a,O (.type "getset_descriptor") (.fields #[S "__weakref__" t,R c,.builtin "ExceptionGroup.__weakref__",.none]))::r
noncomputable abbrev dd (P:Params) (a n:Nat) (l:List (String×Nat×Value)) (r:List (Nat×Obj)):=(a,O (.type "dict") (.dict (es P l).toArray n))::r
noncomputable abbrev di (a n:Nat) (l:List (Nat×Nat×Nat×Nat)) (r:List (Nat×Obj)):=(a,O (.type "dict") (.dict (l.map fun x=>(⟨.ofNat x.1,V x.1 x.2.1,V x.2.2.1 x.2.2.2⟩:DictEntry)).toArray n))::r
noncomputable abbrev cl (a:Nat) (n:String) (bs ms:List Value) (sb:List Value) (f:Option Value) (t:Nat) (nw:String) (r:List (Nat×Obj)):=(a,({ cls:=.type "type",dict:=none,data:=.cls ⟨n,bs,ms,a - 1,n,true,[],sb,false,none,false⟩,slots:=#[f,none,some (S n t),some (S n (t + 8)),some (.builtin nw),some (.bool true)] }:Obj))::r
noncomputable abbrev c0 (a:Nat) (n:String) (t:Nat) (sb:List Value):=cl a n [.type "object"] [R a,.type "object"] sb none t "object.__new__"
noncomputable abbrev c2 (a:Nat) (n:String) (f t:Nat):=cl a n [R 564] [R a,R 564,.type "object"] [] (some (R f)) t "object.__new__"
local macro_rules | `($n:num)=>`(nat_lit $n)
noncomputable def fT:List FR:=[ft 15 0 "_wall" 187 1 1 ["k"] mm0,
fs 29 6 0 "__init__" "RuneError.__init__" 216 11 3 ["self","code","at"] mm1,
fs 63 41 0 "__init__" "KindTable.__init__" 383 51 1 ["self","number","row"] mm2,
fs 70 41 1 "row" "KindTable.row" 392 63 2 ["self","k"] mm2,
fs 77 41 2 "put" "KindTable.put" 400 68 2 ["self","row","found","depth","opened","level","inner","k"] mm2,
ft 91 42 "inner_kinds" 426 91 1 ["row","sort"] mm2,
ft 98 43 "row_level" 434 100 1 ["sort"] mm2,
ft 105 44 "row_length" 441 104 1 ["sort"] mm2,
ft 112 45 "check_kind_row" 448 110 2 ["kt","row","sort","inner"] mm2,
ft 119 46 "check_named" 458 132 2 ["kt","row"] mm2,
ft 126 47 "check_args" 466 136 2 ["kt","args","arg"] mm2,
ft 133 48 "may_stand" 475 140 2 ["kt","k","sort"] mm2,
ft 140 49 "class_kind" 484 145 3 ["kt","tid","args"] mm2,
ft 147 50 "value_kind" 493 149 3 ["kt","tid","args"] mm2,
ft 154 51 "prim_kind" 502 153 2 ["tid","args"] mm2,
ft 161 52 "array_kind" 510 157 2 ["kt","elem"] mm2,
ft 168 53 "var_kind" 518 159 2 ["kt","i"] mm2,
ft 175 54 "mvar_kind" 526 161 2 ["kt","i"] mm2,
ft 182 55 "kind_sort" 534 163 2 ["kt","k"] mm2,
ft 189 56 "elem_of" 542 165 2 ["kt","k","row"] mm2,
ft 196 57 "tid_of" 551 170 2 ["kt","k","row"] mm2,
ft 203 58 "args_of" 560 179 2 ["kt","k","row"] mm2,
ft 210 59 "is_value" 569 184 2 ["kt","k"] mm2,
ft 217 60 "is_var" 577 188 2 ["kt","k","sort"] mm2,
ft 224 61 "close" 586 191 4 ["kt","k","targs","margs"] mm2,
ft 231 62 "close_in" 596 196 5 ["kt","k","targs","margs","seen","row","inner","part"] mm2,
ft 238 63 "with_inner" 610 211 3 ["kt","row","inner","sort"] mm2,
ft 245 64 "box_of" 620 220 2 ["kt","k"] mm2,
ft 252 65 "pick_arg" 628 228 3 ["args","place","k"] mm2,
ft 260 81 "wrap_bits" 669 247 2 ["n","bits"] mm3,
ft 267 82 "wrap32" 677 252 1 ["n"] mm3,
ft 274 83 "wrap64" 684 254 1 ["n"] mm3,
ft 281 84 "plain_default" 691 256 1 ["k"] mm3,
ft 288 85 "cut_to" 698 264 2 ["k","n"] mm3,
ft 295 86 "store_as" 706 276 3 ["kt","k","value","tag"] mm3,
ft 302 87 "tag_of" 716 282 2 ["kt","k"] mm3,
ft 309 88 "tag_of_row" 724 292 1 ["sort"] mm3,
ft 316 89 "fits" 731 302 3 ["kt","value","k","tag"] mm3,
ft 323 90 "get_path" 741 313 2 ["value","path","slot"] mm3,
ft 330 91 "put_path" 750 319 3 ["value","path","new","way","at_slot","slot","place","outer"] mm3,
ft 337 92 "refs_in" 764 331 1 ["value","found","todo","top","place"] mm3,
ft 344 97 "words_for" 783 354 1 ["count"] mm4,
fs 358 98 0 "__init__" "Thing.__init__" 802 360 4 ["self","addr","kind","slots"] mm4,
fs 379 99 0 "__init__" "Heap.__init__" 838 369 3 ["self","limit","card_bits"] mm4,
ft 393 100 "heap_alloc" 867 382 3 ["heap","kind","slots","thing"] mm4,
ft 400 101 "find_thing" 877 391 2 ["heap","word","exact","low","high","middle","thing"] mm4,
ft 407 102 "slot_word" 890 409 2 ["thing","slot"] mm4,
ft 414 103 "slot_at" 898 411 2 ["thing","word","slot"] mm4,
ft 421 104 "read_slot" 907 416 2 ["heap","word","thing","slot"] mm4,
ft 428 105 "holds_reference" 917 424 1 ["value","addr"] mm4,
ft 435 106 "card_number" 925 431 2 ["heap","word"] mm4,
ft 442 107 "store_slot" 933 433 4 ["heap","thing","slot","value"] mm4,
ft 449 108 "write_slot" 943 437 4 ["heap","word","path","value","thing","slot"] mm4,
fs 463 111 0 "__init__" "PlaceHost.__init__" 972 452 4 ["self","heap","frames","statics"] mm5,
ft 477 112 "heap_place" 993 456 2 ["thing","slot"] mm5,
ft 484 113 "path_of" 1001 458 1 ["place"] mm5,
ft 491 114 "slots_of" 1008 462 2 ["ph","place","f"] mm5,
ft 498 115 "index_of" 1017 473 1 ["place"] mm5,
ft 505 116 "read_whole" 1024 477 2 ["ph","place","slots","i"] mm5,
ft 512 117 "read_place" 1034 487 2 ["ph","place","slot_value"] mm5,
ft 519 118 "write_place" 1043 492 3 ["ph","place","value","slot_value","slots"] mm5,
fs 534 127 0 "__init__" "Frame.__init__" 1085 511 6 ["self","number","mref","body","args","sort"] mm6,
fs 555 128 0 "run" "Op.run" 1132 529 4 ["self","m","f","operand"] mm6,
fs 576 129 0 "throw" "Raiser.throw" 1162 533 3 ["self","m","addr"] mm6,
fs 583 129 1 "leave" "Raiser.leave" 1171 538 4 ["self","m","f","aim"] mm6,
fs 590 129 2 "end_finally" "Raiser.end_finally" 1181 541 3 ["self","m","f"] mm6,
fs 597 129 3 "end_filter" "Raiser.end_filter" 1190 544 4 ["self","m","f","value"] mm6,
fs 604 129 4 "rethrow" "Raiser.rethrow" 1200 547 3 ["self","m","f"] mm6,
fs 625 130 0 "need" "Starter.need" 1229 551 4 ["self","m","kind","why"] mm6,
fs 632 130 1 "done" "Starter.done" 1239 554 3 ["self","m","kind"] mm6,
fs 639 130 2 "failed" "Starter.failed" 1248 557 4 ["self","m","kind","addr"] mm6,
fs 660 131 0 "invoke" "Invoker.invoke" 1278 561 5 ["self","m","f","addr","args"] mm6,
fs 667 131 1 "after" "Invoker.after" 1289 564 3 ["self","m","f"] mm6,
fs 674 131 2 "again" "Invoker.again" 1298 567 3 ["self","m","f"] mm6,
fs 695 132 0 "__init__" "Bench.__init__" 1327 571 3 ["self","store","heap"] mm6,
fs 702 132 1 "is_a" "Bench.is_a" 1336 604 3 ["self","exact","k"] mm6,
fs 709 132 2 "goes" "Bench.goes" 1345 607 3 ["self","s","t"] mm6,
fs 716 132 3 "slots_of" "Bench.slots_of" 1354 610 2 ["self","k"] mm6,
fs 723 132 4 "kinds_of" "Bench.kinds_of" 1362 613 2 ["self","k"] mm6,
fs 730 132 5 "skinds_of" "Bench.skinds_of" 1370 616 2 ["self","k"] mm6,
fs 737 132 6 "slot_place" "Bench.slot_place" 1378 619 2 ["self","fref"] mm6,
fs 744 132 7 "target" "Bench.target" 1386 622 3 ["self","exact","mref"] mm6,
fs 751 132 8 "default" "Bench.default" 1395 625 2 ["self","k"] mm6,
fs 758 132 9 "plain" "Bench.plain" 1403 628 2 ["self","k"] mm6,
fs 765 132 10 "finalised" "Bench.finalised" 1411 631 2 ["self","k"] mm6,
fs 772 132 11 "alloc" "Bench.alloc" 1419 634 3 ["self","kind","count"] mm6,
fs 779 132 12 "wrong" "Bench.wrong" 1428 637 2 ["self","code"] mm6,
fs 786 132 13 "pop" "Bench.pop" 1436 640 2 ["self","f"] mm6,
fs 793 132 14 "throw_new" "Bench.throw_new" 1444 643 3 ["self","tid","text"] mm6,
ft 807 133 "note_thrown" 1492 645 2 ["m","tid"] mm6,
ft 814 134 "told_row" 1500 649 2 ["m","k","row"] mm6,
ft 821 135 "told_default" 1509 654 2 ["m","k","found"] mm6,
ft 828 136 "targs_of" 1518 659 2 ["m","f"] mm6,
ft 835 137 "closed_kind" 1526 661 3 ["m","f","k"] mm6,
ft 842 138 "tell_wrong" 1535 663 2 ["m","code","mid","ip","f"] mm6,
ft 849 139 "pop_value" 1546 674 2 ["m","f"] mm6,
ft 856 140 "stored" 1554 679 3 ["m","k","value","slot_kind"] mm6,
ft 863 141 "first_slots" 1564 685 3 ["m","kind","count","sort","out","k"] mm6,
fs 877 148 0 "__init__" "Store.__init__" 1600 708 1 ["self"] mm7,
ft 892 151 "throw_null" 1647 718 1 ["m"] mm8,
ft 899 152 "thing_of" 1654 720 2 ["m","value","thing"] mm8,
ft 906 153 "same_shape" 1663 731 3 ["m","have","want"] mm8,
ft 913 161 "array_of" 1687 742 2 ["m","value","thing"] mm9,
ft 920 162 "element_of" 1696 750 3 ["m","value","index","thing"] mm9,
fs 934 163 0 "run" "OpNewArray.run" 1718 763 4 ["self","m","f","operand","count","thing"] mm9,
fs 953 164 0 "run" "OpLength.run" 1746 776 4 ["self","m","f","operand","thing"] mm9,
fs 972 165 0 "run" "OpLoadElement.run" 1773 784 4 ["self","m","f","operand","index","thing","kind_read"] mm9,
ft 984 166 "store_lets" 1790 794 3 ["m","value","elem"] mm9,
fs 998 167 0 "run" "OpStoreElement.run" 1811 798 4 ["self","m","f","operand","value","index","thing","elem"] mm9,
fs 1017 168 0 "run" "OpLoadElementPlace.run" 1841 816 4 ["self","m","f","operand","readonly","index","thing","k"] mm9,
fs 1036 169 0 "run" "OpReadonly.run" 1871 830 4 ["self","m","f","operand"] mm9,
ft 1048 170 "is_of" 1885 833 3 ["m","value","k","thing"] mm9,
ft 1055 172 "_law_NUMBERS" 1897 837 0 [] zU,
ft 1063 174 "_law_OTHERS" 1926 840 0 [] zU,
ft 1070 175 "_law_ABOVE" 1932 842 0 [] zU,
ft 1077 176 "_law_TWINS" 1938 844 0 [] zU,
ft 1084 177 "_law_SHAPES" 1944 846 0 [] zU,
ft 1091 178 "_law_RANGES" 1950 848 0 [] zU,
ft 1098 179 "_law_cut" 1956 850 2 ["n","bits","least"] zU,
ft 1105 180 "_law_keeps" 1965 853 2 ["name","value","tag","low","many"] zU,
ft 1112 181 "_law_shape" 1976 863 1 ["name"] zU,
ft 1119 182 "_law_unlike" 1983 865 2 ["x","y"] zU,
ft 1126 183 "_law_takes" 1991 867 3 ["name","value","w","shape"] zU,
ft 1133 184 "_law_goes" 2001 878 2 ["exact","name","x","y"] zU,
ft 1140 185 "_law_kind" 2011 888 2 ["w","name"] zU,
ft 1147 186 "_law_written" 2019 892 3 ["w","name","open_form","kt"] zU,
ft 1154 187 "_law_default" 2029 906 2 ["w","name","shape"] zU,
ft 1161 188 "_law_reference" 2038 913 2 ["w","z","pool"] zU,
ft 1168 189 "_law_proper" 2047 916 3 ["w","name","z","shape"] zU,
ft 1175 190 "_law_offered" 2057 925 3 ["w","name","z","sort"] zU,
ft 1182 191 "_law_holds" 2067 933 1 ["value"] zU,
ft 1189 192 "_law_put" 2074 937 4 ["w","addr","i","value","name","items","age"] zU,
ft 1196 193 "_law_first" 2087 942 3 ["w","where","index"] zU,
ft 1203 194 "_law_array" 2096 946 3 ["w","where","i"] zU,
ft 1210 195 "_law_done" 2105 956 4 ["w","jump","want","result","m","stack","thrown","wrongs"] zU,
ft 1217 196 "_law_exact" 2119 972 2 ["w","addr"] zU,
ft 1224 197 "_law_kin" 2127 976 3 ["w","value","name","exact"] zU,
ft 1231 198 "_law_store" 2137 982 6 ["w","where","index","value","name","operand","want","elem"] zU,
ft 1238 199 "_law_load" 2151 1002 5 ["w","where","index","name","operand","want","result","elem","items","age"] zU,
ft 1245 200 "_law_place" 2167 1013 7 ["w","where","index","name","operand","readonly","z","m","f","want","result","elem","place","items","age","value"] zU,
ft 1252 201 "_law_make" 2189 1040 4 ["w","name","open_form","count","m","want","result","addr"] zU,
ft 1259 202 "_law_length" 2203 1058 2 ["w","where","want","result"] zU,
ft 1266 203 "_law_where" 2213 1066 2 ["w","x","u","odd"] zU,
ft 1273 204 "_law_index" 2223 1074 2 ["y","length","u","tag"] zU,
ft 1280 205 "_law_named" 2233 1086 3 ["w","where","u","elem"] zU,
ft 1287 206 "_law_deed" 2243 1095 5 ["w","o","x","y","z","sort","u","open_form","counts","count","where","length","index","name","operand","elem"] zU,
ft 1294 207 "_law_world" 2265 1125 1 ["head","store","kt","m","kinds","name","f","objects","exact","thing"] zU,
ft 1301 208 "_law_settled" 2281 1152 1 ["w","heap","addr","thing","name","items","age"] zU,
ft 1308 209 "law" 2294 1162 1 ["script","head","w","name","count","p","row","j"] zU]
noncomputable def fz (i n:Nat) (r:List (Nat×Obj)):List (Nat×Obj):=((fT.drop i).take n).foldr (fun x r=>fb x.a x.s x.f x.q x.t x.l x.n x.ns x.m r) r
noncomputable def GEs (P:Params):List DictEntry:=es P [("__doc__",166,.none),
("__package__",167,.none),
("__loader__",168,.builtin "__main__.__loader__#opaque"),
("__spec__",169,.none),
("__annotations__",170,R 6),
("__builtins__",171,R 4),
("__file__",173,S "/claim/cut.py" 172),
("__cached__",174,.none),
("_wall",193,R 21),
("W_SLOT",197,V 1 196),
("W_EMPTY",199,V 2 198),
("W_KIND",201,V 5 200),
("W_TARGET",203,V 7 202),
("RuneError",234,R 38),
("BadKind",250,R 51),
("VOID",254,V 0 253),
("BOOL",256,V 1 255),
("CHAR",258,V 2 257),
("I1",260,V 3 259),
("U1",262,V 4 261),
("I2",264,V 5 263),
("U2",266,V 6 265),
("I4",268,V 7 267),
("U4",270,V 8 269),
("I8",272,V 9 271),
("U8",274,V 10 273),
("NINT",276,V 11 275),
("OBJECT",278,V 12 277),
("STRING",280,V 13 279),
("NULLK",282,V 14 281),
("PRIM_END",284,V 16 283),
("R_PRIM",286,V 1 285),
("R_CLASS",288,V 2 287),
("R_VALUE",290,V 3 289),
("R_ARRAY",292,V 4 291),
("R_BYREF",294,V 5 293),
("R_VAR",296,V 6 295),
("R_MVAR",298,V 7 297),
("R_BOXED",300,V 8 299),
("R_ROREF",302,V 9 301),
("R_FTN",304,V 10 303),
("R_RAW",306,V 11 305),
("DEEPEST_KIND",308,V 24 307),
("PRIM_TID",337,R 54),
("TID_PRIM",366,R 55),
("ARRAY_TID",368,V 5 367),
("NULLABLE_TID",370,V 8 369),
("KindTable",425,R 86),
("inner_kinds",433,R 97),
("row_level",440,R 104),
("row_length",447,R 111),
("check_kind_row",457,R 118),
("check_named",465,R 125),
("check_args",474,R 132),
("may_stand",483,R 139),
("class_kind",492,R 146),
("value_kind",501,R 153),
("prim_kind",509,R 160),
("array_kind",517,R 167),
("var_kind",525,R 174),
("mvar_kind",533,R 181),
("kind_sort",541,R 188),
("elem_of",550,R 195),
("tid_of",559,R 202),
("args_of",568,R 209),
("is_value",576,R 216),
("is_var",585,R 223),
("close",595,R 230),
("close_in",609,R 237),
("with_inner",619,R 244),
("box_of",627,R 251),
("pick_arg",636,R 258),
("V_I4",640,V 1 639),
("V_I8",642,V 2 641),
("V_NINT",644,V 3 643),
("V_REF",646,V 4 645),
("V_STRUCT",648,V 5 647),
("V_PLACE",650,V 6 649),
("V_FTN",652,V 7 651),
("V_TEXT",654,V 8 653),
("NULLV",657,R 259),
("NO_TAG",660,W 0 659),
("PL_LOCAL",662,V 1 661),
("PL_ARG",664,V 2 663),
("PL_HEAP",666,V 3 665),
("PL_STATIC",668,V 4 667),
("wrap_bits",676,R 266),
("wrap32",683,R 273),
("wrap64",690,R 280),
("plain_default",697,R 287),
("cut_to",705,R 294),
("store_as",715,R 301),
("tag_of",723,R 308),
("tag_of_row",730,R 315),
("fits",740,R 322),
("get_path",749,R 329),
("put_path",763,R 336),
("refs_in",774,R 343),
("FIRST_ADDRESS",778,V 16 777),
("HEAD_WORDS",780,V 2 779),
("LEAST_SIZE",782,V 3 781),
("words_for",789,R 350),
("Thing",825,R 367),
("Heap",866,R 388),
("heap_alloc",876,R 399),
("find_thing",889,R 406),
("slot_word",897,R 413),
("slot_at",906,R 420),
("read_slot",916,R 427),
("holds_reference",924,R 434),
("card_number",932,R 441),
("store_slot",942,R 448),
("write_slot",954,R 455),
("KEEP_PLACE",959,W 0 958),
("PlaceHost",992,R 472),
("heap_place",1000,R 483),
("path_of",1007,R 490),
("slots_of",1016,R 497),
("index_of",1023,R 504),
("read_whole",1033,R 511),
("read_place",1042,R 518),
("write_place",1053,R 525),
("JP_FALL",1058,W 0 1057),
("JP_STAY",1061,W 1 1060),
("ST_RUN",1063,V 0 1062),
("ST_UNHANDLED",1065,V 2 1064),
("ST_WRONG",1067,V 3 1066),
("TEXT_NULL",1069,S "Object reference not set to an instance of an object." 1068),
("LOST",1072,R 526),
("Frame",1119,R 543),
("Op",1149,R 564),
("Raiser",1216,R 613),
("Starter",1265,R 648),
("Invoker",1314,R 683),
("Bench",1491,R 802),
("note_thrown",1499,R 813),
("told_row",1508,R 820),
("told_default",1517,R 827),
("targs_of",1525,R 834),
("closed_kind",1534,R 841),
("tell_wrong",1545,R 848),
("pop_value",1553,R 855),
("stored",1563,R 862),
("first_slots",1575,R 869),
("T_NULLREF",1579,V 21 1578),
("T_INDEX",1581,V 22 1580),
("T_OVERFLOW",1583,V 26 1582),
("T_ARRAYTYPE",1585,V 27 1584),
("T_OOM",1587,V 30 1586),
("Store",1621,R 886),
("WIDTHS",1646,R 891),
("throw_null",1653,R 898),
("thing_of",1662,R 905),
("same_shape",1671,R 912),
("TEXT_OVER",1673,S "Arithmetic operation resulted in an overflow." 1672),
("TEXT_INDEX",1677,S "Index was outside the bounds of the array." 1676),
("TEXT_ARRAYTYPE",1679,S "Attempted to access an element as a type incompatible with the array." 1678),
("TEXT_MEMORY",1681,S "Insufficient memory to continue the execution of the program." 1680),
("MOST_ELEMENTS",1683,V 65536 1682),
("PREFIX_READONLY",1686,W 1 1685),
("array_of",1695,R 919),
("element_of",1705,R 926),
("OpNewArray",1733,R 943),
("OpLength",1760,R 962),
("OpLoadElement",1789,R 981),
("store_lets",1798,R 990),
("OpStoreElement",1828,R 1007),
("OpLoadElementPlace",1858,R 1026),
("OpReadonly",1884,R 1045),
("is_of",1894,R 1054),
("_law_NUMBERS",1902,R 1061),
("_law_ELEMS",1925,R 1062),
("_law_OTHERS",1931,R 1069),
("_law_ABOVE",1937,R 1076),
("_law_TWINS",1943,R 1083),
("_law_SHAPES",1949,R 1090),
("_law_RANGES",1955,R 1097),
("_law_cut",1964,R 1104),
("_law_keeps",1975,R 1111),
("_law_shape",1982,R 1118),
("_law_unlike",1990,R 1125),
("_law_takes",2000,R 1132),
("_law_goes",2010,R 1139),
("_law_kind",2018,R 1146),
("_law_written",2028,R 1153),
("_law_default",2037,R 1160),
("_law_reference",2046,R 1167),
("_law_proper",2056,R 1174),
("_law_offered",2066,R 1181),
("_law_holds",2073,R 1188),
("_law_put",2086,R 1195),
("_law_first",2095,R 1202),
("_law_array",2104,R 1209),
("_law_done",2118,R 1216),
("_law_exact",2126,R 1223),
("_law_kin",2136,R 1230),
("_law_store",2150,R 1237),
("_law_load",2166,R 1244),
("_law_place",2188,R 1251),
("_law_make",2202,R 1258),
("_law_length",2212,R 1265),
("_law_where",2222,R 1272),
("_law_index",2232,R 1279),
("_law_named",2242,R 1286),
("_law_deed",2264,R 1293),
("_law_world",2280,R 1300),
("_law_settled",2293,R 1307),
("law",2307,R 1314)]
noncomputable def LNs:List Value:=List.flatMap (fun x=>[I x.1,I 0,R x.2]) [(1,20),(9,27),(14,47),(49,61),(91,96),(100,103),(104,110),(110,117),(132,124),(136,131),(140,138),(145,145),(149,152),(153,159),(157,166),(159,173),(161,180),(163,187),(165,194),(170,201),(179,208),(184,215),(188,222),(191,229),(196,236),(211,243),(220,250),(228,257),(247,265),(252,272),(254,279),(256,286),(264,293),(276,300),(282,307),(292,314),(302,321),(313,328),(319,335),(331,342),(354,349),(358,356),(367,377),(382,398),(391,405),(409,412),(411,419),(416,426),(424,433),(431,440),(433,447),(437,454),(450,461),(456,482),(458,489),(462,496),(473,503),(477,510),(487,517),(492,524),(509,532),(527,553),(531,574),(549,623),(559,658),(569,693),(645,812),(649,819),(654,826),(659,833),(661,840),(663,847),(674,854),(679,861),(685,868),(706,875),(718,897),(720,904),(731,911),(742,918),(750,925),(761,932),(774,951),(782,970),(794,989),(796,996),(814,1015),(828,1034),(833,1053),(837,1060),(840,1068),(842,1075),(844,1082),(846,1089),(848,1096),(850,1103),(853,1110),(863,1117),(865,1124),(867,1131),(878,1138),(888,1145),(892,1152),(906,1159),(913,1166),(916,1173),(925,1180),(933,1187),(937,1194),(942,1201),(946,1208),(956,1215),(972,1222),(976,1229),(982,1236),(1002,1243),(1013,1250),(1040,1257),(1058,1264),(1066,1271),(1074,1278),(1086,1285),(1095,1292),(1125,1299),(1152,1306),(1162,1313)]
noncomputable def GLO (P:Params) (nm:Value) (m n:Nat):Obj:={ cls:=.type "dict",data:=.dict (E P "__name__" 165 nm::(GEs P).take m).toArray n }
noncomputable def LNO (m:Nat):Obj:=N (LNs.take m).toArray
noncomputable abbrev gl (P:Params) (m:Value) (a:Nat) (r:List (Nat×Obj)):=(3,GLO P m a (a + 1))::r
noncomputable abbrev ln (n:Nat) (r:List (Nat×Obj)):=(12,LNO n)::r
noncomputable def ia (t:Params→BT) (d:DL) (P:Params):BT:=zbV (t P) (d P)
noncomputable def d0 (P:Params):List (Nat×Obj):=[
 (0,boot_o_0 P),
 (1,boot_o_1 P),
 (2,boot_o_2 P),
 (3,boot_o_3 P),
 (4,boot_o_4 P),
 (5,boot_o_5 P),
 (6,boot_o_6 P),
 (7,boot_o_7 P),
 (8,boot_o_8 P),
 (9,boot_o_9 P),
 (10,boot_o_10 P),
 (11,T #[]),
 (12,LNO 0),
 (13,C #[S "<module>" 182,S "<module>" 183,S "/claim/cut.py" 184,I 1,I 0,I 0,I 0,I 0,R 11,.bool false,I 181,R 12,.none,.none,.none,.none,I 185,I 1,S "/claim/cut.py" 186]),
 (14,⟨(.type "frame"),none,.plain,#[some (R 13),some (R 3),some (R 3),none,some (S "__main__" 164),none,some (R 0)]⟩)]
noncomputable def tr0 (P:Params):BT:=zbV .nil (d0 P)
noncomputable def d1:DL:=fun P =>
gl P mm1 13 <|
ln 3 <|
fz 0 1 <|
 []
noncomputable def tr1:=ia tr0 d1
noncomputable def d2:DL:=fun P =>
 .cons (2,O .none (.dict #[E P "type.__subclasses__.Exception.0" 231 (I 38),E P "type.__subclasses__.Exception.n" 232 (I 1)] 2)) <|
gl P mm1 14 <|
ln 6 <|
 .cons (22,T #[.type "Exception"]) <|
kp 23 <|
dd P 24 5 [("__module__",211,mm1),("__qualname__",213,S "RuneError" 212),("__firstlineno__",215,V 9 214),("__init__",224,R 35),("__static_attributes__",227,R 36)] <|
tE 25 <|
ni 26 [(11,34)] <|
cc 27 "RuneError" 206 9 25 26 <|
fr 28 27 24 mm1 <|
fz 1 1 <|
ts 36 225 ["at","code"] <|
dd P 37 3 [("__module__",211,mm1),("__firstlineno__",215,V 9 214),("__init__",224,R 35),("__static_attributes__",227,R 36),("__weakref__",229,R 39),("__doc__",230,.none)] <|
cl 38 "RuneError" [.type "Exception"] [R 38,.type "Exception",.type "BaseException",.type "object"] [] (some (R 22)) 204 "Exception.__new__" <|
gw 39 228 38 <|
su 40 38 <|
ci 41 38 <|
 []
noncomputable def tr2:=ia tr1 d2
noncomputable def d3:DL:=fun P =>
gl P mm2 23 <|
ln 9 <|
cl 38 "RuneError" [.type "Exception"] [R 38,.type "Exception",.type "BaseException",.type "object"] [R 51] (some (R 22)) 204 "Exception.__new__" <|
 .cons (42,T #[R 38]) <|
kp 43 <|
dd P 44 4 [("__module__",242,mm1),("__qualname__",244,S "BadKind" 243),("__firstlineno__",246,V 14 245),("__static_attributes__",247,R 49)] <|
tE 45 <|
 .cons (46,N #[]) <|
cc 47 "BadKind" 237 14 45 46 <|
fr 48 47 44 mm1 <|
tE 49 <|
dd P 50 2 [("__module__",242,mm1),("__firstlineno__",246,V 14 245),("__static_attributes__",247,R 49),("__doc__",248,.none)] <|
cl 51 "BadKind" [R 38] [R 51,R 38,.type "Exception",.type "BaseException",.type "object"] [] (some (R 42)) 235 "Exception.__new__" <|
su 52 51 <|
ci 53 51 <|
 []
noncomputable def tr3:=ia tr2 d3
noncomputable def d4:DL:=fun P =>
gl P mm2 43 <|
 []
noncomputable def tr4:=ia tr3 d4
noncomputable def d5:DL:=fun P =>
gl P mm2 44 <|
di 54 14 [(0,253,20,309),(1,255,9,310),(2,257,10,311),(3,259,11,312),(4,261,12,313),(5,263,13,314),(6,265,14,315),(7,267,15,316),(8,269,16,317),(9,271,17,318),(10,273,18,319),(11,275,19,320),(12,277,1,321),(13,279,4,322)] <|
 []
noncomputable def tr5:=ia tr4 d5
noncomputable def d6:DL:=fun P =>
gl P mm2 45 <|
di 55 14 [(20,338,0,253),(9,339,1,255),(10,340,2,257),(11,341,3,259),(12,342,4,261),(13,343,5,263),(14,344,6,265),(15,345,7,267),(16,346,8,269),(17,347,9,271),(18,348,10,273),(19,349,11,275),(1,350,12,277),(4,351,13,279)] <|
 []
noncomputable def tr6:=ia tr5 d6
noncomputable def d7:DL:=fun P =>
gl P mm2 47 <|
 []
noncomputable def tr7:=ia tr6 d7
noncomputable def d8:DL:=fun P =>
gl P mm2 48 <|
ln 12 <|
tE 56 <|
kp 57 <|
dd P 58 7 [("__module__",378,mm2),("__qualname__",380,S "KindTable" 379),("__firstlineno__",382,V 49 381),("__init__",391,R 69),("row",399,R 76),("put",413,R 83),("__static_attributes__",418,R 84)] <|
tE 59 <|
ni 60 [(51,68),(63,75),(68,82)] <|
cc 61 "KindTable" 373 49 59 60 <|
fr 62 61 58 mm2 <|
fz 2 3 <|
ts 84 414 ["depths","index","opens","rows"] <|
dd P 85 4 [("__module__",378,mm2),("__firstlineno__",382,V 49 381),("__init__",391,R 69),("row",399,R 76),("put",413,R 83),("__static_attributes__",418,R 84),("__dict__",420,R 87),("__weakref__",422,R 88),("__doc__",423,.none)] <|
c0 86 "KindTable" 371 [] <|
gd 87 419 86 <|
gw 88 421 86 <|
su 89 86 <|
ci 90 86 <|
 []
noncomputable def tr8:=ia tr7 d8
noncomputable def d9:DL:=fun P =>
gl P mm2 57 <|
ln 39 <|
fz 5 9 <|
 []
noncomputable def tr9:=ia tr8 d9
noncomputable def d10:DL:=fun P =>
gl P mm2 66 <|
ln 66 <|
fz 14 9 <|
 []
noncomputable def zmk:=ia tr9 d10
noncomputable def d11:DL:=fun P =>
gl P mm3 82 <|
ln 84 <|
fz 23 6 <|
 .cons (259,T #[V 4 655,V 0 656]) <|
 []
noncomputable def zmd:=ia zmk d11
noncomputable def d12:DL:=fun P =>
gl P mm3 94 <|
ln 108 <|
fz 29 8 <|
 []
noncomputable def zmE:=ia zmd d12
noncomputable def d13:DL:=fun P =>
gl P mm4 102 <|
ln 123 <|
fz 37 5 <|
 []
noncomputable def zli:=ia zmE d13
noncomputable def d14:DL:=fun P =>
gl P mm4 103 <|
ln 126 <|
tE 351 <|
kp 352 <|
dd P 353 5 [("__module__",797,mm4),("__qualname__",799,S "Thing" 798),("__firstlineno__",801,V 358 800),("__init__",811,R 364),("__static_attributes__",818,R 365)] <|
tE 354 <|
ni 355 [(360,363)] <|
cc 356 "Thing" 792 358 354 355 <|
fr 357 356 353 mm4 <|
fz 42 1 <|
ts 365 812 ["addr","gen","kind","serial","size","slots"] <|
dd P 366 4 [("__module__",797,mm4),("__firstlineno__",801,V 358 800),("__init__",811,R 364),("__static_attributes__",818,R 365),("__dict__",820,R 368),("__weakref__",822,R 369),("__doc__",823,.none)] <|
c0 367 "Thing" 790 [] <|
gd 368 819 367 <|
gw 369 821 367 <|
su 370 367 <|
ci 371 367 <|
 []
noncomputable def zlc:=ia zli d14
noncomputable def d15:DL:=fun P =>
gl P mm4 105 <|
ln 132 <|
tE 372 <|
kp 373 <|
dd P 374 5 [("__module__",833,mm4),("__qualname__",835,S "Heap" 834),("__firstlineno__",837,V 367 836),("__init__",846,R 385),("__static_attributes__",859,R 386)] <|
tE 375 <|
ni 376 [(369,384)] <|
cc 377 "Heap" 828 367 375 376 <|
fr 378 377 374 mm4 <|
fz 43 1 <|
ts 386 847 ["at","card_bits","cards","finals","fresh","limit","made","moved","ready","things","top","young_limit"] <|
dd P 387 4 [("__module__",833,mm4),("__firstlineno__",837,V 367 836),("__init__",846,R 385),("__static_attributes__",859,R 386),("__dict__",861,R 389),("__weakref__",863,R 390),("__doc__",864,.none)] <|
c0 388 "Heap" 826 [] <|
gd 389 860 388 <|
gw 390 862 388 <|
su 391 388 <|
ci 392 388 <|
fz 44 1 <|
 []
noncomputable def zlb:=ia zlc d15
noncomputable def d16:DL:=fun P =>
gl P mm5 114 <|
ln 156 <|
fz 45 8 <|
 []
noncomputable def zk0:=ia zlb d16
noncomputable def d17:DL:=fun P =>
gl P mm5 117 <|
ln 165 <|
tE 456 <|
kp 457 <|
dd P 458 5 [("__module__",967,mm5),("__qualname__",969,S "PlaceHost" 968),("__firstlineno__",971,V 450 970),("__init__",981,R 469),("__static_attributes__",985,R 470)] <|
tE 459 <|
ni 460 [(452,468)] <|
cc 461 "PlaceHost" 962 450 459 460 <|
fr 462 461 458 mm5 <|
fz 53 1 <|
ts 470 982 ["frames","heap","statics"] <|
dd P 471 4 [("__module__",967,mm5),("__firstlineno__",971,V 450 970),("__init__",981,R 469),("__static_attributes__",985,R 470),("__dict__",987,R 473),("__weakref__",989,R 474),("__doc__",990,.none)] <|
c0 472 "PlaceHost" 960 [] <|
gd 473 986 472 <|
gw 474 988 472 <|
su 475 472 <|
ci 476 472 <|
fz 54 2 <|
 []
noncomputable def zlw:=ia zk0 d17
noncomputable def d18:DL:=fun P =>
gl P mm6 129 <|
ln 180 <|
fz 56 5 <|
 .cons (526,T #[V 0 1070,V 0 1071]) <|
 []
noncomputable def zme:=ia zlw d18
noncomputable def d19:DL:=fun P =>
gl P mm6 130 <|
ln 183 <|
tE 527 <|
kp 528 <|
dd P 529 5 [("__module__",1080,mm6),("__qualname__",1082,S "Frame" 1081),("__firstlineno__",1084,V 509 1083),("__init__",1096,R 540),("__static_attributes__",1112,R 541)] <|
tE 530 <|
ni 531 [(511,539)] <|
cc 532 "Frame" 1075 509 530 531 <|
fr 533 532 529 mm6 <|
fz 61 1 <|
ts 541 1097 ["args","body","caught","caughtv","conts","extra","home","ip","keep","locals_","mref","number","prefix","sort","stack"] <|
dd P 542 4 [("__module__",1080,mm6),("__firstlineno__",1084,V 509 1083),("__init__",1096,R 540),("__static_attributes__",1112,R 541),("__dict__",1114,R 544),("__weakref__",1116,R 545),("__doc__",1117,.none)] <|
c0 543 "Frame" 1073 [] <|
gd 544 1113 543 <|
gw 545 1115 543 <|
su 546 543 <|
ci 547 543 <|
 []
noncomputable def zl4:=ia zme d19
noncomputable def d20:DL:=fun P =>
gl P mm6 131 <|
ln 186 <|
tE 548 <|
kp 549 <|
dd P 550 5 [("__module__",1127,mm6),("__qualname__",1129,S "Op" 1128),("__firstlineno__",1131,V 527 1130),("run",1141,R 561),("__static_attributes__",1142,R 562)] <|
tE 551 <|
ni 552 [(529,560)] <|
cc 553 "Op" 1122 527 551 552 <|
fr 554 553 550 mm6 <|
fz 62 1 <|
tE 562 <|
dd P 563 4 [("__module__",1127,mm6),("__firstlineno__",1131,V 527 1130),("run",1141,R 561),("__static_attributes__",1142,R 562),("__dict__",1144,R 565),("__weakref__",1146,R 566),("__doc__",1147,.none)] <|
c0 564 "Op" 1120 [] <|
gd 565 1143 564 <|
gw 566 1145 564 <|
su 567 564 <|
ci 568 564 <|
 []
noncomputable def zm8:=ia zl4 d20
noncomputable def d21:DL:=fun P =>
gl P mm6 132 <|
ln 189 <|
tE 569 <|
kp 570 <|
dd P 571 9 [("__module__",1157,mm6),("__qualname__",1159,S "Raiser" 1158),("__firstlineno__",1161,V 531 1160),("throw",1170,R 582),("leave",1180,R 589),("end_finally",1189,R 596),("end_filter",1199,R 603),("rethrow",1208,R 610),("__static_attributes__",1209,R 611)] <|
tE 572 <|
ni 573 [(533,581),(538,588),(541,595),(544,602),(547,609)] <|
cc 574 "Raiser" 1152 531 572 573 <|
fr 575 574 571 mm6 <|
fz 63 5 <|
tE 611 <|
dd P 612 4 [("__module__",1157,mm6),("__firstlineno__",1161,V 531 1160),("throw",1170,R 582),("leave",1180,R 589),("end_finally",1189,R 596),("end_filter",1199,R 603),("rethrow",1208,R 610),("__static_attributes__",1209,R 611),("__dict__",1211,R 614),("__weakref__",1213,R 615),("__doc__",1214,.none)] <|
c0 613 "Raiser" 1150 [] <|
gd 614 1210 613 <|
gw 615 1212 613 <|
su 616 613 <|
ci 617 613 <|
 []
noncomputable def zky:=ia zm8 d21
noncomputable def d22:DL:=fun P =>
gl P mm6 133 <|
ln 192 <|
tE 618 <|
kp 619 <|
dd P 620 7 [("__module__",1224,mm6),("__qualname__",1226,S "Starter" 1225),("__firstlineno__",1228,V 549 1227),("need",1238,R 631),("done",1247,R 638),("failed",1257,R 645),("__static_attributes__",1258,R 646)] <|
tE 621 <|
ni 622 [(551,630),(554,637),(557,644)] <|
cc 623 "Starter" 1219 549 621 622 <|
fr 624 623 620 mm6 <|
fz 68 3 <|
tE 646 <|
dd P 647 4 [("__module__",1224,mm6),("__firstlineno__",1228,V 549 1227),("need",1238,R 631),("done",1247,R 638),("failed",1257,R 645),("__static_attributes__",1258,R 646),("__dict__",1260,R 649),("__weakref__",1262,R 650),("__doc__",1263,.none)] <|
c0 648 "Starter" 1217 [] <|
gd 649 1259 648 <|
gw 650 1261 648 <|
su 651 648 <|
ci 652 648 <|
 []
noncomputable def zks:=ia zky d22
noncomputable def d23:DL:=fun P =>
gl P mm6 134 <|
ln 195 <|
tE 653 <|
kp 654 <|
dd P 655 7 [("__module__",1273,mm6),("__qualname__",1275,S "Invoker" 1274),("__firstlineno__",1277,V 559 1276),("invoke",1288,R 666),("after",1297,R 673),("again",1306,R 680),("__static_attributes__",1307,R 681)] <|
tE 656 <|
ni 657 [(561,665),(564,672),(567,679)] <|
cc 658 "Invoker" 1268 559 656 657 <|
fr 659 658 655 mm6 <|
fz 71 3 <|
tE 681 <|
dd P 682 4 [("__module__",1273,mm6),("__firstlineno__",1277,V 559 1276),("invoke",1288,R 666),("after",1297,R 673),("again",1306,R 680),("__static_attributes__",1307,R 681),("__dict__",1309,R 684),("__weakref__",1311,R 685),("__doc__",1312,.none)] <|
c0 683 "Invoker" 1266 [] <|
gd 684 1308 683 <|
gw 685 1310 683 <|
su 686 683 <|
ci 687 683 <|
 []
noncomputable def zlt:=ia zks d23
noncomputable def d24:DL:=fun P =>
gl P mm6 135 <|
ln 198 <|
tE 688 <|
kp 689 <|
dd P 690 19 [("__module__",1322,mm6),("__qualname__",1324,S "Bench" 1323),("__firstlineno__",1326,V 569 1325),("__init__",1335,R 701),("is_a",1344,R 708),("goes",1353,R 715),("slots_of",1361,R 722),("kinds_of",1369,R 729),("skinds_of",1377,R 736),("slot_place",1385,R 743),("target",1394,R 750),("default",1402,R 757),("plain",1410,R 764),("finalised",1418,R 771),("alloc",1427,R 778),("wrong",1435,R 785),("pop",1443,R 792),("throw_new",1452,R 799),("__static_attributes__",1484,R 800)] <|
tE 691 <|
ni 692 [(571,700),(604,707),(607,714),(610,721),(613,728),(616,735),(619,742),(622,749),(625,756),(628,763),(631,770),(634,777),(637,784),(640,791),(643,798)] <|
cc 693 "Bench" 1317 569 691 692 <|
fr 694 693 690 mm6 <|
fz 74 15 <|
ts 800 1453 ["by_number","chases","defaults","fails","finals","frames","heap","held","inits","interned","internv","invoker","kin","kt","last","most_frames","places","raiser","result","rows","serial","starter","state","statics","store","targets","thrown","told","unders","unhandled","words"] <|
dd P 801 4 [("__module__",1322,mm6),("__firstlineno__",1326,V 569 1325),("__init__",1335,R 701),("is_a",1344,R 708),("goes",1353,R 715),("slots_of",1361,R 722),("kinds_of",1369,R 729),("skinds_of",1377,R 736),("slot_place",1385,R 743),("target",1394,R 750),("default",1402,R 757),("plain",1410,R 764),("finalised",1418,R 771),("alloc",1427,R 778),("wrong",1435,R 785),("pop",1443,R 792),("throw_new",1452,R 799),("__static_attributes__",1484,R 800),("__dict__",1486,R 803),("__weakref__",1488,R 804),("__doc__",1489,.none)] <|
c0 802 "Bench" 1315 [] <|
gd 803 1485 802 <|
gw 804 1487 802 <|
su 805 802 <|
ci 806 802 <|
 []
noncomputable def zkN:=ia zlt d24
noncomputable def d25:DL:=fun P =>
gl P mm7 145 <|
ln 225 <|
fz 89 9 <|
 []
noncomputable def zmt:=ia zkN d25
noncomputable def d26:DL:=fun P =>
gl P mm8 150 <|
ln 228 <|
tE 870 <|
kp 871 <|
dd P 872 5 [("__module__",1595,mm7),("__qualname__",1597,S "Store" 1596),("__firstlineno__",1599,V 706 1598),("__init__",1606,R 883),("__static_attributes__",1614,R 884)] <|
tE 873 <|
ni 874 [(708,882)] <|
cc 875 "Store" 1590 706 873 874 <|
fr 876 875 872 mm7 <|
fz 98 1 <|
ts 884 1607 ["asms","entry","fields_","kt","methods","names","types"] <|
dd P 885 4 [("__module__",1595,mm7),("__firstlineno__",1599,V 706 1598),("__init__",1606,R 883),("__static_attributes__",1614,R 884),("__dict__",1616,R 887),("__weakref__",1618,R 888),("__doc__",1619,.none)] <|
c0 886 "Store" 1588 [] <|
gd 887 1615 886 <|
gw 888 1617 886 <|
su 889 886 <|
ci 890 886 <|
 []
noncomputable def zhz:=ia zmt d26
noncomputable def d27:DL:=fun P =>
gl P mm8 151 <|
di 891 11 [(1,255,1,1624),(3,259,1,1625),(4,261,1,1626),(2,257,2,1627),(5,263,2,1628),(6,265,2,1629),(7,267,4,1630),(8,269,4,1631),(9,271,8,1632),(10,273,8,1633),(11,275,5,1634)] <|
 []
noncomputable def zi4:=ia zhz d27
noncomputable def d28:DL:=fun P =>
gl P mm9 162 <|
ln 243 <|
fz 99 5 <|
 []
noncomputable def zmr:=ia zi4 d28
noncomputable def d29:DL:=fun P =>
gl P mm9 163 <|
ln 246 <|
c0 564 "Op" 1120 [R 943] <|
 .cons (927,T #[R 564]) <|
kp 928 <|
dd P 929 5 [("__module__",1713,mm9),("__qualname__",1715,S "OpNewArray" 1714),("__firstlineno__",1717,V 761 1716),("run",1729,R 940),("__static_attributes__",1730,R 941)] <|
tE 930 <|
ni 931 [(763,939)] <|
cc 932 "OpNewArray" 1708 761 930 931 <|
fr 933 932 929 mm9 <|
fz 104 1 <|
tE 941 <|
dd P 942 2 [("__module__",1713,mm9),("__firstlineno__",1717,V 761 1716),("run",1729,R 940),("__static_attributes__",1730,R 941),("__doc__",1731,.none)] <|
c2 943 "OpNewArray" 927 1706 <|
su 944 943 <|
ci 945 943 <|
 []
noncomputable def zlM:=ia zmr d29
noncomputable def d30:DL:=fun P =>
gl P mm9 164 <|
ln 249 <|
c0 564 "Op" 1120 [R 943,R 962] <|
 .cons (946,T #[R 564]) <|
kp 947 <|
dd P 948 5 [("__module__",1741,mm9),("__qualname__",1743,S "OpLength" 1742),("__firstlineno__",1745,V 774 1744),("run",1756,R 959),("__static_attributes__",1757,R 960)] <|
tE 949 <|
ni 950 [(776,958)] <|
cc 951 "OpLength" 1736 774 949 950 <|
fr 952 951 948 mm9 <|
fz 105 1 <|
tE 960 <|
dd P 961 2 [("__module__",1741,mm9),("__firstlineno__",1745,V 774 1744),("run",1756,R 959),("__static_attributes__",1757,R 960),("__doc__",1758,.none)] <|
c2 962 "OpLength" 946 1734 <|
su 963 962 <|
ci 964 962 <|
 []
noncomputable def zk2:=ia zlM d30
noncomputable def d31:DL:=fun P =>
gl P mm9 166 <|
ln 255 <|
c0 564 "Op" 1120 [R 943,R 962,R 981] <|
 .cons (965,T #[R 564]) <|
kp 966 <|
dd P 967 5 [("__module__",1768,mm9),("__qualname__",1770,S "OpLoadElement" 1769),("__firstlineno__",1772,V 782 1771),("run",1785,R 978),("__static_attributes__",1786,R 979)] <|
tE 968 <|
ni 969 [(784,977)] <|
cc 970 "OpLoadElement" 1763 782 968 969 <|
fr 971 970 967 mm9 <|
fz 106 1 <|
tE 979 <|
dd P 980 2 [("__module__",1768,mm9),("__firstlineno__",1772,V 782 1771),("run",1785,R 978),("__static_attributes__",1786,R 979),("__doc__",1787,.none)] <|
c2 981 "OpLoadElement" 965 1761 <|
su 982 981 <|
ci 983 981 <|
fz 107 1 <|
 []
noncomputable def zmT:=ia zk2 d31
noncomputable def d32:DL:=fun P =>
gl P mm9 167 <|
ln 258 <|
c0 564 "Op" 1120 [R 943,R 962,R 981,R 1007] <|
 .cons (991,T #[R 564]) <|
kp 992 <|
dd P 993 5 [("__module__",1806,mm9),("__qualname__",1808,S "OpStoreElement" 1807),("__firstlineno__",1810,V 796 1809),("run",1824,R 1004),("__static_attributes__",1825,R 1005)] <|
tE 994 <|
ni 995 [(798,1003)] <|
cc 996 "OpStoreElement" 1801 796 994 995 <|
fr 997 996 993 mm9 <|
fz 108 1 <|
tE 1005 <|
dd P 1006 2 [("__module__",1806,mm9),("__firstlineno__",1810,V 796 1809),("run",1824,R 1004),("__static_attributes__",1825,R 1005),("__doc__",1826,.none)] <|
c2 1007 "OpStoreElement" 991 1799 <|
su 1008 1007 <|
ci 1009 1007 <|
 []
noncomputable def zmf:=ia zmT d32
noncomputable def d33:DL:=fun P =>
gl P mm9 168 <|
ln 261 <|
c0 564 "Op" 1120 [R 943,R 962,R 981,R 1007,R 1026] <|
 .cons (1010,T #[R 564]) <|
kp 1011 <|
dd P 1012 5 [("__module__",1836,mm9),("__qualname__",1838,S "OpLoadElementPlace" 1837),("__firstlineno__",1840,V 814 1839),("run",1854,R 1023),("__static_attributes__",1855,R 1024)] <|
tE 1013 <|
ni 1014 [(816,1022)] <|
cc 1015 "OpLoadElementPlace" 1831 814 1013 1014 <|
fr 1016 1015 1012 mm9 <|
fz 109 1 <|
tE 1024 <|
dd P 1025 2 [("__module__",1836,mm9),("__firstlineno__",1840,V 814 1839),("run",1854,R 1023),("__static_attributes__",1855,R 1024),("__doc__",1856,.none)] <|
c2 1026 "OpLoadElementPlace" 1010 1829 <|
su 1027 1026 <|
ci 1028 1026 <|
 []
noncomputable def zmX:=ia zmf d33
noncomputable def d34:DL:=fun P =>
gl P zU 170 <|
ln 267 <|
c0 564 "Op" 1120 [R 943,R 962,R 981,R 1007,R 1026,R 1045] <|
 .cons (1029,T #[R 564]) <|
kp 1030 <|
dd P 1031 5 [("__module__",1866,mm9),("__qualname__",1868,S "OpReadonly" 1867),("__firstlineno__",1870,V 828 1869),("run",1880,R 1042),("__static_attributes__",1881,R 1043)] <|
tE 1032 <|
ni 1033 [(830,1041)] <|
cc 1034 "OpReadonly" 1861 828 1032 1033 <|
fr 1035 1034 1031 mm9 <|
fz 110 1 <|
tE 1043 <|
dd P 1044 2 [("__module__",1866,mm9),("__firstlineno__",1870,V 828 1869),("run",1880,R 1042),("__static_attributes__",1881,R 1043),("__doc__",1882,.none)] <|
c2 1045 "OpReadonly" 1029 1859 <|
su 1046 1045 <|
ci 1047 1045 <|
fz 111 1 <|
 []
noncomputable def zlR:=ia zmX d34
noncomputable def d35:DL:=fun P =>
gl P zU 180 <|
ln 294 <|
fz 112 1 <|
ts 1062 1903 ["b","a","o","c","i","t","i4","u4","u1","i1","bool","char","i2","u2","e","i8","nint","s","a[]","u4[]","u8","s2"] <|
fz 113 8 <|
 []
noncomputable def zkp:=ia zlR d35
noncomputable def d36:DL:=fun P =>
gl P zU 189 <|
ln 321 <|
fz 121 9 <|
 []
noncomputable def zmA:=ia zkp d36
noncomputable def d37:DL:=fun P =>
gl P zU 198 <|
ln 348 <|
fz 130 9 <|
 []
noncomputable def zmy:=ia zmA d37
noncomputable def d38:DL:=fun P =>
gl P zU 206 <|
ln 372 <|
fz 139 8 <|
 []
noncomputable def zj8:=ia zmy d38
noncomputable def d39:DL:=fun P =>
gl P zU 208 <|
ln 378 <|
fz 147 2 <|
 []
noncomputable def Ym:=ia zj8 d39
noncomputable abbrev sT (t:Params→BT) (n toks:Nat) (w:World) (os:OsState):SharedT:=⟨t w.params,n,{},Array.mk [],{},toks,os⟩
end
end Mine.Hd
end
section
open PySem PySem.W PyProof.Rows
namespace Mine.Hd
noncomputable abbrev Sg (w:World) (p:Program) (b:List Stmt) (os:OsState) (st:Nat) (t:Params→BT) (n k a c:Nat) (q:Pos) (t':Params→BT) (n' k':Nat) (q':Pos):Prop :=
 segRunT treeTable p w 11 (some (.ref 6)) 1 st (sT t n k w os) (piecesOf (sts a c) zbv (.body b zbv) q [topFrame p00])=some (.next,sT t' n' k' w os,.body b zbv,q')
theorem pg0 (w:World) (p:Program) (b:List Stmt) (os:OsState):Sg w p b os 231 tr1 22 204 6 1 ⟨8,0,8,8⟩ tr2 42 235 ⟨9,0,13,20⟩∧Sg w p b os 295 tr2 42 235 7 10 ⟨9,0,13,20⟩ tr3 54 269 ⟨24,0,24,2⟩∧Sg w p b os 297 tr7 56 371 41 1 ⟨48,0,48,12⟩ tr8 91 426 ⟨49,0,90,16⟩∧Sg w p b os 230 zli 351 790 98 1 ⟨354,0,357,29⟩ zlc 372 826 ⟨358,0,366,23⟩∧Sg w p b os 267 zlc 372 826 99 2 ⟨358,0,366,23⟩ zlb 400 877 ⟨382,0,390,16⟩:=⟨by kernel_rfl,by kernel_rfl,by kernel_rfl,by kernel_rfl,by kernel_rfl⟩
theorem pg1 (w:World) (p:Program) (b:List Stmt) (os:OsState):Sg w p b os 286 zk0 456 960 111 3 ⟨449,0,449,10⟩ zlw 491 1008 ⟨458,0,461,19⟩∧Sg w p b os 241 zme 527 1073 127 1 ⟨508,0,508,4⟩ zl4 548 1120 ⟨509,0,526,24⟩∧Sg w p b os 224 zl4 548 1120 128 1 ⟨509,0,526,24⟩ zm8 569 1150 ⟨527,0,530,22⟩∧Sg w p b os 357 zm8 569 1150 129 1 ⟨527,0,530,22⟩ zky 618 1217 ⟨531,0,548,16⟩∧Sg w p b os 291 zky 618 1217 130 1 ⟨531,0,548,16⟩ zks 653 1266 ⟨549,0,558,16⟩:=⟨by kernel_rfl,by kernel_rfl,by kernel_rfl,by kernel_rfl,by kernel_rfl⟩
theorem pg2 (w:World) (p:Program) (b:List Stmt) (os:OsState):Sg w p b os 291 zks 653 1266 131 1 ⟨549,0,558,16⟩ zlt 688 1315 ⟨559,0,568,25⟩∧Sg w p b os 707 zlt 688 1315 132 1 ⟨559,0,568,25⟩ zkN 807 1492 ⟨569,0,644,37⟩∧Sg w p b os 273 zmt 870 1580 144 6 ⟨701,0,701,9⟩ zhz 891 1624 ⟨716,0,716,8⟩∧Sg w p b os 249 zmr 927 1706 163 1 ⟨750,0,760,16⟩ zlM 946 1734 ⟨761,0,773,22⟩∧Sg w p b os 248 zlM 946 1734 164 1 ⟨761,0,773,22⟩ zk2 965 1761 ⟨774,0,781,22⟩:=⟨by kernel_rfl,by kernel_rfl,by kernel_rfl,by kernel_rfl,by kernel_rfl⟩
theorem pg3 (w:World) (p:Program) (b:List Stmt) (os:OsState):Sg w p b os 281 zk2 965 1761 165 2 ⟨774,0,781,22⟩ zmT 991 1799 ⟨794,0,795,49⟩∧Sg w p b os 251 zmT 991 1799 167 1 ⟨794,0,795,49⟩ zmf 1010 1829 ⟨796,0,813,22⟩∧Sg w p b os 251 zmf 1010 1829 168 1 ⟨796,0,813,22⟩ zmX 1029 1859 ⟨814,0,827,22⟩∧Sg w p b os 288 zmX 1029 1859 169 3 ⟨814,0,827,22⟩ zlR 1055 1897 ⟨836,0,836,8⟩:=⟨by kernel_rfl,by kernel_rfl,by kernel_rfl,by kernel_rfl⟩
theorem pg4 (w:World) (p:Program) (b:List Stmt) (os:OsState):Sg w p b os 75 tr0 15 187 0 6 ⟨0,0,0,0⟩ tr1 22 204 ⟨8,0,8,8⟩∧Sg w p b os 181 tr3 54 269 17 20 ⟨24,0,24,2⟩ tr4 54 309 ⟨44,0,44,12⟩∧Sg w p b os 19 tr6 56 367 39 2 ⟨46,0,46,8⟩ tr7 56 371 ⟨48,0,48,12⟩∧Sg w p b os 275 tr8 91 426 42 9 ⟨49,0,90,16⟩ tr9 154 502 ⟨149,0,152,39⟩∧Sg w p b os 274 tr9 154 502 51 9 ⟨149,0,152,39⟩ zmk 217 577 ⟨184,0,187,34⟩∧Sg w p b os 300 zmk 217 577 60 17 ⟨184,0,187,34⟩ zmd 260 661 ⟨242,0,242,6⟩∧Sg w p b os 275 zmd 260 661 77 12 ⟨242,0,242,6⟩ zmE 316 731 ⟨292,0,301,17⟩∧Sg w p b os 198 zmE 316 731 89 9 ⟨292,0,301,17⟩ zli 351 790 ⟨354,0,357,29⟩:=⟨by kernel_rfl,by kernel_rfl,by kernel_rfl,by kernel_rfl,by kernel_rfl,by kernel_rfl,by kernel_rfl,by kernel_rfl⟩
theorem pg5 (w:World) (p:Program) (b:List Stmt) (os:OsState):Sg w p b os 278 zlb 400 877 101 10 ⟨382,0,390,16⟩ zk0 456 960 ⟨449,0,449,10⟩∧Sg w p b os 242 zlw 491 1008 114 13 ⟨458,0,461,19⟩ zme 527 1073 ⟨508,0,508,4⟩∧Sg w p b os 301 zkN 807 1492 133 11 ⟨569,0,644,37⟩ zmt 870 1580 ⟨701,0,701,9⟩∧Sg w p b os 223 zi4 892 1647 151 12 ⟨717,0,717,6⟩ zmr 927 1706 ⟨750,0,760,16⟩∧Sg w p b os 294 zlR 1055 1897 172 10 ⟨836,0,836,8⟩ zkp 1119 1983 ⟨863,0,864,37⟩∧Sg w p b os 283 zkp 1119 1983 182 9 ⟨863,0,864,37⟩ zmA 1182 2067 ⟨925,0,932,39⟩∧Sg w p b os 299 zmA 1182 2067 191 9 ⟨925,0,932,39⟩ zmy 1245 2167 ⟨1002,0,1012,83⟩∧Sg w p b os 291 zmy 1245 2167 200 8 ⟨1002,0,1012,83⟩ zj8 1301 2281 ⟨1125,0,1151,156⟩:=⟨by kernel_rfl,by kernel_rfl,by kernel_rfl,by kernel_rfl,by kernel_rfl,by kernel_rfl,by kernel_rfl,by kernel_rfl⟩
theorem pg6 (w:World) (p:Program) (b:List Stmt) (os:OsState):Sg w p b os 72 zj8 1301 2281 208 2 ⟨1125,0,1151,156⟩ Ym 1315 2308 ⟨1162,0,1180,26⟩:=by kernel_rfl
theorem pc4 (w:World) (p:Program) (b:List Stmt) (os:OsState):Sg w p b os 207 tr4 54 309 37 1 ⟨44,0,44,12⟩ tr5 55 338 ⟨45,0,45,8⟩ :=
 byRow2 "special-get-raises" (P:=fun w=>Sg w p b os 207 tr4 54 309 37 1 ⟨44,0,44,12⟩ tr5 55 338 ⟨45,0,45,8⟩) (fun w=>by kernel_rfl) (fun w=>by kernel_rfl) w
theorem pc5 (w:World) (p:Program) (b:List Stmt) (os:OsState):Sg w p b os 207 tr5 55 338 38 1 ⟨45,0,45,8⟩ tr6 56 367 ⟨46,0,46,8⟩ :=
 byRow2 "special-get-raises" (P:=fun w=>Sg w p b os 207 tr5 55 338 38 1 ⟨45,0,45,8⟩ tr6 56 367 ⟨46,0,46,8⟩) (fun w=>by kernel_rfl) (fun w=>by kernel_rfl) w
theorem zqm (w:World) (p:Program) (b:List Stmt) (os:OsState):Sg w p b os 165 zhz 891 1624 150 1 ⟨716,0,716,8⟩ zi4 892 1647 ⟨717,0,717,6⟩ :=
 byRow2 "special-get-raises" (P:=fun w=>Sg w p b os 165 zhz 891 1624 150 1 ⟨716,0,716,8⟩ zi4 892 1647 ⟨717,0,717,6⟩) (fun w=>by kernel_rfl) (fun w=>by kernel_rfl) w
end Mine.Hd
end
section
open PySem PySem.W PyProof.Rows
namespace Mine.Hd
noncomputable abbrev cE:Code:=.body zy zbv
noncomputable abbrev zoa:Pos:={ line:=1162,col:=0,endLine:=1180,endCol:=26 }
noncomputable abbrev s0 (w:World) (os:OsState):Shared:=⟨boot_heap w.params,Array.mk [],boot_drawn,boot_toks,os⟩
theorem zm9 (w:World) (os:OsState):topGo treeTable P0 w 11 (some (.ref 6)) 12 (s0 w os) (topStub P0)=some ((sT tr0 15 187 w os).abs,⟨denote treeTable cE,cE,p00,[topFrame p00]⟩):=by
 kernel_rfl
theorem zf5 (w:World) (os:OsState):segRun treeTable P0 w 11 (some (.ref 6)) 1 1 (sT tr0 15 187 w os).abs (blockOf zy zbv cE p00 [topFrame p00])=some (.next,(sT tr0 15 187 w os).abs,cE,p00):=by
 kernel_rfl
theorem zmo (w:World) (os:OsState):topRun treeTable P0 w 11 (some (.ref 6)) 2 (sT Ym 1315 2308 w os).abs (restOf [] zbv cE zoa [topFrame p00])=some (sT Ym 1315 2308 w os).abs:=by
 kernel_rfl
theorem zoZ:∀ w:World,(fencedOpening treeTable P0 w 20000).map (fun s=>(s.heap,s.gens,s.drawn,s.toks))=some (boot_heap w.params,Array.mk [],boot_drawn,boot_toks) :=
 boot_open (by kernel_rfl) (by kernel_rfl) (fun s=>by kernel_rfl)
theorem zpE (w:World):((boot_heap w.params).isNs mainGlobals&&(Array.mk []:Array GenState).size == 0,(boot_heap w.params).objs.size,(boot_heap w.params).nsMap mainGlobals "__annotations__")=(true,11,some (.ref 6)):=by
 kernel_rfl
end Mine.Hd
end
section
open PySem PySem.W PyProof.Rows
namespace Mine.Hd
theorem zlg (a c:Nat):sts a c++zy.drop (a + c)=zy.drop a:=by
 unfold sts
 rw [← List.drop_drop]
 exact List.take_append_drop ..
@[irreducible] noncomputable def Rn (w:World) (os:OsState) (N:Nat) (t:Params→BT) (n k a:Nat) (q:Pos):Prop:=topRun treeTable P0 w 11 (some (.ref 6)) N (sT t n k w os).abs (restOf (zy.drop a) zbv cE q [topFrame p00])=some (sT Ym 1315 2308 w os).abs
theorem st {w:World} {os:OsState} {N n m k a c m' k':Nat} {t t':Params→BT} {q q':Pos} (h:Sg w P0 zy os n t m k a c q t' m' k' q') (r:Rn w os N t' m' k' (a + c) q'):Rn w os (n + N) t m k a q:=by
 unfold Rn at r ⊢
 have:=piece_app (segRun_of h) r
 rwa [zlg] at this
theorem zhn:zy.drop 210=[]:=by kernel_rfl
theorem zqZ (w:World) (os:OsState):Rn w os 10019 tr0 15 187 0 p00 :=
 st (N:=9944) (pg4 w P0 zy os).1 <|
 st (N:=9713) (pg0 w P0 zy os).1 <|
 st (N:=9418) (pg0 w P0 zy os).2.1 <|
 st (N:=9237) (pg4 w P0 zy os).2.1 <|
 st (N:=9030) (pc4 w P0 zy os) <|
 st (N:=8823) (pc5 w P0 zy os) <|
 st (N:=8804) (pg4 w P0 zy os).2.2.1 <|
 st (N:=8507) (pg0 w P0 zy os).2.2.1 <|
 st (N:=8232) (pg4 w P0 zy os).2.2.2.1 <|
 st (N:=7958) (pg4 w P0 zy os).2.2.2.2.1 <|
 st (N:=7658) (pg4 w P0 zy os).2.2.2.2.2.1 <|
 st (N:=7383) (pg4 w P0 zy os).2.2.2.2.2.2.1 <|
 st (N:=7185) (pg4 w P0 zy os).2.2.2.2.2.2.2 <|
 st (N:=6955) (pg0 w P0 zy os).2.2.2.1 <|
 st (N:=6688) (pg0 w P0 zy os).2.2.2.2 <|
 st (N:=6410) (pg5 w P0 zy os).1 <|
 st (N:=6124) (pg1 w P0 zy os).1 <|
 st (N:=5882) (pg5 w P0 zy os).2.1 <|
 st (N:=5641) (pg1 w P0 zy os).2.1 <|
 st (N:=5417) (pg1 w P0 zy os).2.2.1 <|
 st (N:=5060) (pg1 w P0 zy os).2.2.2.1 <|
 st (N:=4769) (pg1 w P0 zy os).2.2.2.2 <|
 st (N:=4478) (pg2 w P0 zy os).1 <|
 st (N:=3771) (pg2 w P0 zy os).2.1 <|
 st (N:=3470) (pg5 w P0 zy os).2.2.1 <|
 st (N:=3197) (pg2 w P0 zy os).2.2.1 <|
 st (N:=3032) (zqm w P0 zy os) <|
 st (N:=2809) (pg5 w P0 zy os).2.2.2.1 <|
 st (N:=2560) (pg2 w P0 zy os).2.2.2.1 <|
 st (N:=2312) (pg2 w P0 zy os).2.2.2.2 <|
 st (N:=2031) (pg3 w P0 zy os).1 <|
 st (N:=1780) (pg3 w P0 zy os).2.1 <|
 st (N:=1529) (pg3 w P0 zy os).2.2.1 <|
 st (N:=1241) (pg3 w P0 zy os).2.2.2 <|
 st (N:=947) (pg5 w P0 zy os).2.2.2.2.1 <|
 st (N:=664) (pg5 w P0 zy os).2.2.2.2.2.1 <|
 st (N:=365) (pg5 w P0 zy os).2.2.2.2.2.2.1 <|
 st (N:=74) (pg5 w P0 zy os).2.2.2.2.2.2.2 <|
 st (N:=2) (pg6 w P0 zy os) <| by
 show Rn w os 2 Ym 1315 2308 210 zoa
 unfold Rn; rw [zhn]; exact zmo w os
theorem zkK (w:World) (os:OsState):topRun treeTable P0 w 11 (some (.ref 6)) 10032 (s0 w os) (topStub P0)=some (sT Ym 1315 2308 w os).abs :=
 go_top (n:=12) (N:=10020) (zm9 w os) (piece_block (n:=1) (N:=10019) (zf5 w os) (by have:=zqZ w os; unfold Rn at this; exact this))
end Mine.Hd
end
section
open PySem PySem.W PyProof.Rows
namespace Mine.Hd
noncomputable def qV:Program:={ P0 with main:={ P0.main with body:=[nth P0.main.body 209] } }
noncomputable def loV:List Str:=P0.boundNames.filter fun n=>!(n == ("law":Str))
noncomputable abbrev Ko (w:World):Heap:=absHeap (Ym w.params) 1315 {}
theorem lkA (w:World) (os:OsState):(staticsOk (importedModules P0.main.body) (boot_heap w.params) (Ko w)&&namesBound P0 (Ko w)&&gensDone ⟨Ko w,Array.mk [],{},2308,os⟩&&laidKept (boot_heap w.params) (Ko w))=true:=by kernel_rfl
theorem lkB (w:World) (os:OsState):openSeen qV loV (importedModules P0.main.body) (fun s=>recOk [] s) true ⟨Ko w,Array.mk [],{},2308,os⟩=openGood qV loV:=by kernel_rfl
end Mine.Hd
end
section
open PySem PySem.W PyProof.Rows
namespace Mine.Hd
theorem zlY (w:World) (os:OsState):topRun treeTable P0 w 11 (some (.ref 6)) 10032 ⟨boot_heap w.params,Array.mk [],boot_drawn,boot_toks,os⟩ (topStub P0)=some ⟨absHeap (Ym w.params) 1315 {},Array.mk [],{},2308,os⟩:=by
 have h:=zkK w os
 rw [show (sT Ym 1315 2308 w os).abs=⟨absHeap (Ym w.params) 1315 {},Array.mk [],{},2308,os⟩ from by with_reducible unfold sT SharedT.abs; rfl] at h
 exact h
theorem zmH (w:World):(fun os=>((staticsOk (importedModules P0.main.body) (boot_heap w.params) (Ko w)&&namesBound P0 (Ko w)&&gensDone ⟨Ko w,Array.mk [],{},2308,os⟩&&laidKept (boot_heap w.params) (Ko w)),
  openSeen qV loV (importedModules P0.main.body) (fun s=>recOk [] s) true ⟨Ko w,Array.mk [],{},2308,os⟩,(⟨Ko w,Array.mk [],{},2308,os⟩:Shared).heap))=fun _=>(true,openGood qV loV,Ko w) :=
 funext fun os=>looks_pair (lkA w os) (looks_pair (lkB w os) (Eq.refl (Ko w)))
theorem zn6:LeftO P0 qV loV (fun s=>recOk [] s) (fun s=>s.heap) Ko 20000 true :=
 LeftO.of_pieces (p:=P0) (q:=qV) (loose:=loV) (Xt:=fun s=>recOk [] s) (Yf:=fun s=>s.heap) (Ya:=Ko) (N:=20000) (g0:=true) (H₀:=boot_heap) (H₁:=fun P=>absHeap (Ym P) 1315 {}) (gs₀:=Array.mk []) (gs₁:=Array.mk []) (d₀:=boot_drawn) (d₁:={}) (k₀:=boot_toks) (k₁:=2308) (m₀:=11) (ann:=some (.ref 6)) (M:=10032)
  zoZ zpE zlY (Eq.refl true) zmH
end Mine.Hd
end
section
open PySem PySem.W PyProof.Rows
namespace Mine.Hd
noncomputable abbrev LW:OpenLaw:=PySem.Challenge.rw_qd0045_01
noncomputable def dkV:DefRec×List (Str×Expr):=(defOf qV "law").getD (⟨Str.ofString "law",zgP (top 209),zbi (top 209),zcU (top 209),p00⟩,[])
noncomputable abbrev YPV (w:World) (h:Heap):Prop:=∀ a o,(Ko w).get? a=some o→h.get? a=some o
theorem Vz:defOf qV LW.row.name=some (dkV.1,dkV.2):=by kernel_rfl
theorem zp5:LW.row.prog.theDef LW.row.name=some (dkV.1.params,dkV.1.body,dkV.1.scope):=by kernel_rfl
theorem kwV:kwWritten? dkV.1.params.kwonlyargs dkV.1.params.kw_defaults=some dkV.2:=by kernel_rfl
theorem okV:(chainsOk qV&&opensWell LW.row.prog&&(frees LW.row.toRowW&&LW.row.within.isEmpty))=true:=by kernel_rfl
theorem zoY:LW.row.prog.bare:=⟨by kernel_rfl,by kernel_rfl,by kernel_rfl,by kernel_rfl,by kernel_rfl,by decide +kernel⟩
theorem zov:LW.row.toRowW.promised:=⟨[.list []],by decide +kernel,by decide +kernel⟩
theorem zqT (said:LW.row.wellSaid=true) (walk:WalkO qV loV (fun _ _=>True) YPV LW.row.toRowW dkV.1 dkV.2 fun f vs=>PySem.call f vs):LW.row.Holds :=
 holds_open (r:=LW.row) (q:=qV) (loose:=loV) (Xt:=fun s=>recOk [] s) (XP:=fun _ _=>True) (Yf:=fun s=>s.heap) (Ya:=Ko) (YP:=YPV) (d:=dkV.1) (kwd:=dkV.2) (N:=20000) zn6
  (fun _ s e _ _ h=>(show s.heap=Ko _ from e).symm ▸ h) (fun _ _ _ y k a o e=>k _ _ (y a o e)) (fun _ _=>trivial) (fun _ _ _ _ _=>trivial) Vz zp5 kwV (fun _ e=>recFacts_of e) rfl said okV zoY zov walk
end Mine.Hd
end
section
open PySem PySem.W PyProof.Rows
namespace Mine.Wl
noncomputable abbrev L:OpenLaw:=PySem.Challenge.rw_qd0045_01
noncomputable abbrev r:OpenRow:=L.row
theorem a1:sreFenced r.prog.main=true:=by kernel_rfl
theorem a2:((moduleNames r.prog.main.body).isEmpty || lookedIntoSs (moduleNames r.prog.main.body) r.prog.main.body)=true:=by kernel_rfl
theorem a3:namesResolve r.prog=true:=by kernel_rfl
theorem a4:(r.prog.boundNames.all fun n=>!worldNames.contains n)=true:=by kernel_rfl
theorem a5:noRoadLSs { strict:=!(importedModules r.prog.main.body).all cThrough.contains,foot:=none,bare:=(["vars","dir","locals"]:List Str).filter (readsOut r.prog r.prog.main.body) } r.prog.main.body=true:=by kernel_rfl
theorem a6:(namesMeet r.prog r.prog.main.body fun _ n=>attrL n)=true:=by kernel_rfl
theorem zpI:looksOpen r.prog=true:=by
 unfold looksOpen
 exact look_both (look_both (look_both (look_both (look_both a1 a2) a3) a4) a5) a6
theorem p1:(r.loose.isEmpty&&r.makers.isEmpty)=true:=by kernel_rfl
theorem zqn:r.partSaid=true:=by
 unfold OpenRow.partSaid
 rw [zpI]
 kernel_rfl
theorem b1:(r.prog.boundNames.contains r.name)=true:=by kernel_rfl
theorem b1':(!startupNames.contains r.name)=true:=by kernel_rfl
theorem zim:r.wellSaid=true:=by
 unfold OpenRow.wellSaid
 exact look_both (look_both zqn b1) b1'
theorem c1:decide (L.foot≤(behindTheImports L.prog).length)=true:=by kernel_rfl
theorem c2:L.footing.all footLine=true:=by kernel_rfl
theorem c3:noClassBlock L.prog L.footing=true:=by kernel_rfl
theorem c4:L.most.all (fun n=>decide (63≤n))=true:=by kernel_rfl
theorem c5:L.bound.all (fun n=>decide (2 ^ 63≤n))=true:=by kernel_rfl
theorem c6:noRoadLSs { strict:=true,foot:=some L.bound',writes:=L.writes,may:=L.may } L.footing=true:=by kernel_rfl
theorem c7:defStands L.about L.above=true:=by kernel_rfl
theorem c8:L.namesIt=true:=by kernel_rfl
theorem c9:(["type","isinstance","issubclass","getattr","hasattr"]:List Str).all (fun n=>L.about != [n])=true:=by kernel_rfl
theorem d1:L.bound'.all (fun n=>!builtinNamed n || L.about == [n] || !L.reads n)=true:=by kernel_rfl
theorem d2:(!L.writes || (L.prog.main.body.flatMap importedNames).all fun n=>!L.reads n)=true:=by kernel_rfl
theorem d3:(L.prog.main.body.flatMap importedNames).all (fun n=>!L.reads n || (drawsOf n L.prog.main.body).all fun mn=>mn.2 != ("attrgetter":Str)&&mn.2 != ("methodcaller":Str))=true:=by kernel_rfl
theorem d4:namesMeet L.prog L.footing (fun sc n=>(!(["type","isinstance","issubclass","getattr","hasattr"]:List Str).contains n || sc.names.lookup n == some .globalImplicit)&&(L.may != some n || sc.kind == .module || sc.names.lookup n == some .globalImplicit))=true:=by kernel_rfl
theorem d5:L.own.contains L.name=true:=by kernel_rfl
theorem d6:(L.own.eraseDups.length == L.own.length)=true:=by kernel_rfl
theorem d7:L.own.all (fun n=>!builtinNamed n)=true:=by kernel_rfl
theorem d8:namesMeet L.prog L.above (fun _ n=>!L.own.contains n)=true:=by kernel_rfl
theorem d9:(namesMeet L.prog L.footing fun sc n=>sc.kind == .module || sc.names.lookup n != some .globalExplicit)=true:=by kernel_rfl
theorem zhZ:L.wellSaid=true:=by
 unfold OpenLaw.wellSaid
 exact look_both (look_both (look_both (look_both (look_both (look_both (look_both (look_both (look_both (look_both (look_both (look_both (look_both (look_both (look_both (look_both (look_both (look_both zim c1) c2) c3) c4) c5) c6) c7) c8) c9) d1) d2) d3) d4) d5) d6) d7) d8) d9
end Mine.Wl
end
section
namespace Mine
open PySem
theorem Km:∀ {ns:List Str} {us:List Value} {x:Str},ns.length=us.length→x∈ns→((ns.zip us).lookup x).isSome=true
 | [],us,x,_,h=>by cases h
 | n::ns,[],x,h,_=>by cases h
 | n::ns,u::us,x,hl,h=>by
  rw [List.zip_cons_cons,List.lookup_cons]
  cases e:x == n with
  | true=>rfl
  | false =>
   have hx:x∈ns:=by
    rcases List.mem_cons.mp h with rfl | h
    ·simp at e
    ·exact h
   exact Km (by simpa using hl) hx
theorem ZV:∀ {ns:List Str} {us:List Value},ns.Nodup→ns.length=us.length→(ns.filterMap fun n=>((ns.zip us).lookup n).map fun v=>(n,v))=ns.zip us:=by
 have gen:∀ {ns:List Str} {us:List Value} {l:List (Str×Value)},ns.Nodup→ns.length=us.length→(∀ p,p∈ns.zip us→l.lookup p.1=some p.2)→(ns.filterMap fun n=>(l.lookup n).map fun v=>(n,v))=ns.zip us:=by
  intro ns
  induction ns with
  | nil=>intro us l _ _ _; rfl
  | cons n ns ih =>
   intro us l nd hl h
   cases us with
   | nil=>cases hl
   | cons u us =>
    rw [List.zip_cons_cons,List.filterMap_cons,h (n,u) (by simp)]
    show (n,u)::ns.filterMap (fun n=>(l.lookup n).map fun v=>(n,v))=_
    rw [ih (List.nodup_cons.mp nd).2 (by simpa using hl) fun p hp=>h p (by rw [List.zip_cons_cons]; exact .tail _ hp)]
 intro ns us nd hl
 refine gen nd hl ?_
 have look:∀ {ns:List Str} {us:List Value},ns.Nodup→∀ p,p∈ns.zip us→(ns.zip us).lookup p.1=some p.2:=by
  intro ns
  induction ns with
  | nil=>intro us _ p hp; simp at hp
  | cons n ns ih =>
   intro us nd p hp
   cases us with
   | nil=>simp at hp
   | cons u us =>
    rw [List.zip_cons_cons] at hp ⊢
    rw [List.lookup_cons]
    rcases List.mem_cons.mp hp with rfl | hp
    ·simp
    ·have hm:p.1∈ns:=(List.of_mem_zip hp).1
     have hne:(p.1 == n)=false:=by
      cases e:p.1 == n with
      | false=>rfl
      | true =>
       exact absurd (eq_of_beq e ▸ hm) (List.nodup_cons.mp nd).1
     rw [hne]
     exact ih (List.nodup_cons.mp nd).2 p hp
 exact look nd
theorem zaq {fd:FuncData} {ns:List Str} {us:List Value} (h1:fd.params.posonlyargs=[]) (h2:fd.params.args.map (·.arg)=ns) (h3:fd.params.kwonlyargs=[]) (h4:fd.params.vararg=none) (h5:fd.params.kwarg=none) (h6:fd.defaults=.none)
  (nd:ns.Nodup) (hl:us.length=ns.length):bindArgs fd ⟨us,[]⟩=pure (ns.zip us):=by
 obtain ⟨a1,a2,⟨b1,b2,b3,b4,b5,b6,b7⟩,a4,a5,a6,a7,a8,a9,a10,a11,a12,a13,a14,a15⟩:=fd
 dsimp only at h1 h2 h3 h4 h5 h6
 subst h1 h2 h3 h4 h5 h6
 refine Eq.trans (if_neg (c:=decide (us.length > (b2.map (·.arg)).length)&&true=true) (by simp [hl])) ?_
 dsimp only
 have hmiss:∀ k,(((b2.map (·.arg)).take k).filter fun n=>(((b2.map (·.arg)).zip us).lookup n).isNone)=[]:=fun k=>List.filter_eq_nil_iff.mpr fun n hn=>by
  have e:=Km (us:=us) hl.symm (List.mem_of_mem_take hn)
  rw [Option.isNone_eq_false_iff.mpr e]; exact Bool.noConfusion
 refine Eq.trans (if_neg fun z=>?_) ?_
 ·have z:(!((List.filter (fun n=>(List.lookup n ((b2.map (·.arg)).zip us)).isNone) (List.take _ (b2.map (·.arg)))).isEmpty))=true:=z
  rw [hmiss] at z
  exact Bool.noConfusion z
 have hz:∀ (l:List Str) (k:Nat),l.zip (List.drop k (Option.getD (none:Option (Array Value)) #[]).toList)=[]:=fun l k=>(congrArg l.zip (List.drop_nil (i:=k))).trans List.zip_nil_right
 rw [hz]
 exact congrArg (pure (f:=Sem)) ((congrArg (List.filterMap _) (List.append_nil _)).trans (ZV nd hl.symm))
end Mine
end
section
namespace Mine
open PySem PySem.W PyProof.Rows PySem.Calls
noncomputable def fnT:List (Addr×Stmt×List String):=Hd.fT.map fun x=>(x.a + 6,x.s,x.ns)
noncomputable def fnN:List (Option String):=Hd.fT.map fun x=>x.o
noncomputable def zio:List (String×Addr×Addr):=[("RuneError",38,37),("BadKind",51,50),("KindTable",86,85),("Thing",367,366),("Heap",388,387),("PlaceHost",472,471),("Frame",543,542),("Op",564,563),("Raiser",613,612),("Starter",648,647),("Invoker",683,682),("Bench",802,801),("Store",886,885),("OpNewArray",943,942),("OpLength",962,961),("OpLoadElement",981,980),("OpStoreElement",1007,1006),("OpLoadElementPlace",1026,1025),("OpReadonly",1045,1044)]
noncomputable def jl:List String:=["code","at","rows","index","depths","opens","row","put","addr","kind","slots","gen","size","serial","things","top","limit","cards","card_bits","fresh","young_limit","finals","ready","moved","made","heap","frames","statics","args","keep","locals_","number","mref","body","ip","stack","conts","caught","caughtv","sort","home","extra","prefix","state","unhandled","wrong","store","kt","kin","targets","defaults","unders","by_number","told","thrown","inits","fails","chases","result","last","most_frames","interned","internv","held","words","places","raiser","starter","invoker","plain","default","kinds_of","types","fields_","methods","names","asms","entry","throw_new","pop","alloc","is_a","run"]
noncomputable def znK:List String:=["PRIM_END","R_PRIM","R_VAR","R_MVAR","DEEPEST_KIND","R_CLASS","R_VALUE","R_ARRAY","R_BYREF","R_BOXED","R_ROREF","R_RAW","R_FTN","TID_PRIM","VOID","NULLK","PRIM_TID","ARRAY_TID","BOOL","NINT","NULLABLE_TID","U4","V_I4","I8","U8","V_I8","V_NINT","NULLV","U1","CHAR","U2","I1","I2","OBJECT","STRING","V_REF","V_STRUCT","V_PLACE","V_FTN","NO_TAG","HEAD_WORDS","LEAST_SIZE","FIRST_ADDRESS","PL_HEAP","PL_STATIC","PL_ARG","KEEP_PLACE","PL_LOCAL","JP_FALL","ST_RUN","ST_UNHANDLED","W_TARGET","JP_STAY","ST_WRONG","W_EMPTY","LOST","W_SLOT","V_TEXT","T_NULLREF","TEXT_NULL","W_KIND","WIDTHS","T_INDEX","TEXT_INDEX","T_OVERFLOW","TEXT_OVER","MOST_ELEMENTS","T_OOM","TEXT_MEMORY","T_ARRAYTYPE","TEXT_ARRAYTYPE","PREFIX_READONLY","bool","_law_ELEMS"]
noncomputable def zeW:List Addr:=[54,55,891]
noncomputable def zh9 (v:Value) (f:Int→Bool):Bool:=match v with | .int i _=>f i | _=>false
noncomputable def zkM (v:Value) (f:Str→Bool):Bool:=match v with | .str i _=>f i | _=>false
noncomputable def zbq (v:Value) (f:Addr→Bool):Bool:=match v with | .ref i=>f i | _=>false
noncomputable def vTy (v:Value) (f:String→Bool):Bool:=match v with | .type i=>f i | _=>false
noncomputable def zj3 (v:Data) (f:Array DictEntry→Bool):Bool:=match v with | .dict i _=>f i | _=>false
noncomputable def zpX (v:Data) (f:Array Value→Bool):Bool:=match v with | .seq i _=>f i | _=>false
noncomputable def zg5 (v:Data) (f:FuncData→Bool):Bool:=match v with | .func i=>f i | _=>false
noncomputable def zjV (v:Data) (f:Array Value→Bool):Bool:=match v with | .fields i=>f i | _=>false
noncomputable def zoQ (v:FuncBody) (f:List Stmt→Bool):Bool:=match v with | .stmts i=>f i | _=>false
section
variable {v:Value} {e:Data} {P:Prop}
theorem Y6 {f:Int→Bool} (h:zh9 v f=true) (k:∀ i t,v=.int i t→f i=true→P):P:=by
 induction v using Value.casesOn with
 | int i t=>exact k i t rfl h
 | _=>exact no h
theorem zam {f:Str→Bool} (h:zkM v f=true) (k:∀ i t,v=.str i t→f i=true→P):P:=by
 induction v using Value.casesOn with
 | str i t=>exact k i t rfl h
 | _=>exact no h
theorem VC {f:Addr→Bool} (h:zbq v f=true) (k:∀ i,v=.ref i→f i=true→P):P:=by
 induction v using Value.casesOn with
 | ref i=>exact k i rfl h
 | _=>exact no h
theorem zhC {f:String→Bool} (h:vTy v f=true) (k:∀ i,v=.type i→f i=true→P):P:=by
 induction v using Value.casesOn with
 | type i=>exact k i rfl h
 | _=>exact no h
theorem zd1 {f:Array DictEntry→Bool} (h:zj3 e f=true) (k:∀ i n,e=.dict i n→f i=true→P):P:=by
 induction e using Data.casesOn with
 | dict i n=>exact k i n rfl h
 | _=>exact no h
theorem zfC {f:Array Value→Bool} (h:zpX e f=true) (k:∀ i n,e=.seq i n→f i=true→P):P:=by
 induction e using Data.casesOn with
 | seq i n=>exact k i n rfl h
 | _=>exact no h
theorem zej {f:FuncData→Bool} (h:zg5 e f=true) (k:∀ i,e=.func i→f i=true→P):P:=by
 induction e using Data.casesOn with
 | func i=>exact k i rfl h
 | _=>exact no h
theorem zec {f:Array Value→Bool} (h:zjV e f=true) (k:∀ i,e=.fields i→f i=true→P):P:=by
 induction e using Data.casesOn with
 | fields i=>exact k i rfl h
 | _=>exact no h
theorem oB {α:Type} {o:Option α} {f:α→Bool} (h:o.any f=true) (k:∀ x,o=some x→f x=true→P):P:=by
 induction o using Option.casesOn with
 | none=>exact no h
 | some x=>exact k x rfl h
end
noncomputable def fnA (f:Nat):Addr:=((fnT[f]?).map (·.1)).getD 0
noncomputable def zd4 (k:Nat):Addr:=((zio[k]?).map (·.2.1)).getD 0
noncomputable def xv (n:Nat):Str:=((jl[n]?).map Str.ofString).getD ⟨#[0,n]⟩
noncomputable def NM:Nm:=⟨fun n=>Str.ofString ((znK[n]?).getD "?"),fun f=>((fnN[f]?).join).map Str.ofString,fun k=>if Nat.ble 2 k=true then (zio[k]?).map fun x=>Str.ofString x.1 else none,xv⟩
noncomputable def LLK:Ve:=fun f=>if Nat.beq f 112=true then some [[98,111,111,108],[99,104,97,114],[105,49],[117,49],[105,50],[117,50],[105,52],[117,52],[105,56],[117,56],[110,105,110,116]] else none
@[irreducible] noncomputable def lk (P:Params) (a:Addr):Option Obj:=bif Nat.blt a 1315 then ((Hd.Ym P).get a).bind alive else none
theorem Ze {w:World} {h:Heap} (Y:Hd.YPV w h) {a:Addr} {o:Obj} (e:lk w.params a=some o):h.get? a=some o:=by
 delta lk at e
 cases hb:Nat.blt a 1315 with
 | false=>rw [hb] at e; exact nn e
 | true =>
  rw [hb,cond_true] at e
  obtain ⟨x,hx,hy⟩:=Option.bind_eq_some_iff.mp e
  have hb:a < 1315:=Nat.le_of_ble_eq_true hb
  refine Y a o ?_
  rw [abs_get hb hx]
  exact hy
noncomputable def kAs:List Addr:=zio.flatMap (fun x=>[x.2.1,x.2.2])++fnT.map (·.1)
@[irreducible] noncomputable def KF (P:Params):Frag:=kAs.filterMap fun a=>(lk P a).map fun o=>(a,o)
theorem zce {β:Type} {a:Addr} {b:β} {l:List (Addr×β)} (h:l.lookup a=some b):(a,b)∈l:=by
 induction l with
 | nil=>exact nn h
 | cons x l ih =>
  rw [List.lookup_cons] at h
  cases e:a == x.1 with
  | true =>
   rw [e] at h
   rw [eq_of_beq e,← Option.some.inj h]; exact .head _
  | false=>rw [e] at h; exact .tail _ (ih h)
theorem zpg {w:World} {h:Heap} (Y:Hd.YPV w h):(KF w.params).In h:=by
 intro a o e
 delta KF at e
 obtain ⟨b,_,hb⟩:=List.mem_filterMap.mp (zce e)
 obtain ⟨o',ho,z⟩:=Option.map_eq_some_iff.mp hb
 cases z
 exact Ze Y ho
noncomputable def yx (w:World) (h:Heap) (a:Addr):Cx:={ prog:=Hd.P0,w:=w,h₀:=h,cls:=zd4,cst:=fun k=>if Nat.beq k 3=true then a else (zeW[k]?).getD 0,fld:=xv,fn:=fnA,gl:=3,bi:=0,K:=KF w.params }
theorem zbE:(jl.map Str.ofString).Nodup:=by decide +kernel
theorem zdK:jl.all (fun x=>decide ((Str.ofString x).cps[0]?≠some 0))=true:=by decide +kernel
theorem zc3 {i j:Nat} {x:String} (hx:jl[i]?=some x) (e:Str.ofString x=⟨#[0,j]⟩):False:=by
 have:=of_decide_eq_true (List.all_eq_true.mp zdK x (List.mem_of_getElem? hx))
 rw [e] at this
 exact this rfl
theorem zf9 (i j:Nat) (e:xv i=xv j):i=j:=by
 delta xv at e
 cases hx:jl[i]? with
 | none =>
  cases hy:jl[j]? with
  | none=>rw [hx,hy] at e; exact (List.cons.inj (List.cons.inj (congrArg (fun s:Str=>s.cps.toList) e)).2).1
  | some y=>rw [hx,hy] at e; exact (zc3 hy e.symm).elim
 | some x =>
  cases hy:jl[j]? with
  | none=>rw [hx,hy] at e; exact (zc3 hx e).elim
  | some y =>
   rw [hx,hy] at e
   have hi:(jl.map Str.ofString)[i]?=some (Str.ofString x):=by rw [List.getElem?_map,hx]; rfl
   have hj:(jl.map Str.ofString)[j]?=some (Str.ofString x):=by rw [List.getElem?_map,hy]; exact congrArg some (Eq.symm e)
   exact (List.getElem?_inj (WV hi) zbE).mp (hi.trans hj.symm)
theorem zgk {n:Nat} {l:List Nat} (h:zg7 n l=true):n∈l:=by
 induction l with
 | nil=>exact no h
 | cons j r ih=>exact (Bool.or_eq_true_iff.mp (h:(Nat.beq j n || zg7 n r)=true)).elim (fun h=>Nat.eq_of_beq_eq_true h ▸ .head _) fun h=>.tail _ (ih h)
noncomputable def Zw (P:Params) (ks:List Nat):Bool:=ks.all fun k=>(zj2 k).all fun n=>YD (KF P) (zd4 k) (xv n)
theorem zhD (P:Params):Zw P [0,1,2,3,4,5,7,8,9,10]=true:=by kernel_rfl
theorem zho (P:Params):Zw P [6,12]=true:=by kernel_rfl
theorem ziL (P:Params):Zw P [11]=true:=by kernel_rfl
theorem zkc (P:Params) (k n:Nat) (h:JA k n=true):YD (KF P) (zd4 k) (xv n)=true:=by
 by_cases hk:k < 13
 ·have e:Zw P ([0,1,2,3,4,5,7,8,9,10]++([6,12]++[11]))=true:=by
   delta Zw
   rw [List.all_append,List.all_append]
   exact Bool.and_eq_true_iff.mpr ⟨zhD P,Bool.and_eq_true_iff.mpr ⟨zho P,ziL P⟩⟩
  exact List.all_eq_true.mp (List.all_eq_true.mp e k ((by decide:∀ k < 13,k∈[0,1,2,3,4,5,7,8,9,10]++([6,12]++[11])) k hk)) n (zgk h)
 ·rw [show JA k n=false from congrArg (fun l:Option (List Nat)=>zg7 n (l.getD [])) (List.getElem?_eq_none (Nat.not_lt.mp hk))] at h
  exact no h
end Mine
end
section
namespace Mine
open PySem PySem.W PyProof.Rows PySem.Calls
noncomputable def zlj (v:Value) (n:String):Bool:=vTy v fun m=>m == n
theorem xJ {v:Value} {n:String} (h:zlj v n=true):v=.type n:=zhC h fun _ e h=>e.trans (congrArg _ (eq_of_beq h))
noncomputable def zj1 (e:DictEntry) (p:Int×Int):Bool:=(zh9 e.key fun k=>decide (k=p.1))&&((zh9 e.val fun v=>decide (v=p.2))&&decide (e.hash=hashInt p.1))
noncomputable def jA:List DictEntry→List (Int×Int)→Bool
 | [],t=>t.isEmpty
 | e::es,t=>match t with
  | []=>false
  | p::t=>zj1 e p&&jA es t
noncomputable def qA (o:Option Obj) (t:List (Int×Int)):Bool:=o.any fun o=>zlj o.cls "dict"&&(o.dict.isNone&&(o.slots.isEmpty&&((zj3 o.data fun es=>jA es.toList t)&&decide (t.map (·.1)).Nodup)))
inductive zpP (c:Cx) (h:Heap) (prog:Program) (w:World) (es:List DictEntry) (t:List (Int×Int)):Prop
 | mk (kvs:List (Int×Value)) (p:Pairs (intKind prog w) es kvs) (q:kvs.map (·.1)=t.map (·.1)) (r:∀ e∈es,∃ k,(intKind prog w).is k e.key=true∧e.hash=(intKind prog w).hash k) (d:DR c AV.int h [] (t.map fun p=>(AV.int p.1,AV.int p.2)) kvs)
theorem zjk {c:Cx} {h:Heap} {prog:Program} {w:World} {es:List DictEntry}:∀ {t:List (Int×Int)},jA es t=true→zpP c h prog w es t:=by
 induction es with
 | nil =>
  intro t e
  cases List.isEmpty_iff.mp (e:t.isEmpty=true)
  exact ⟨[],.nil,rfl,fun _ h=>absurd h List.not_mem_nil,.nil⟩
 | cons e es ih =>
  intro t z
  induction t using List.casesOn with
  | nil=>exact no z
  | cons p t =>
   have z:=tt (z:(zj1 e p&&jA es t)=true)
   have z2:=tt (tt z.1).2
   obtain ⟨kvs,a,q,r,d⟩:=ih z.2
   obtain ⟨hs,ky,vl⟩:=e
   refine Y6 (tt z.1).1 fun k' t1 e1 h1=>Y6 z2.1 fun v' t2 e2 h2=>?_
   cases e1
   cases e2
   have h1:=of_decide_eq_true h1
   have h2:=of_decide_eq_true h2
   have ik:(intKind prog w).is p.1 (.int k' t1)=true:=by show Value.isInt p.1 (.int k' t1)=true; rw [h1]; exact decide_eq_true rfl
   refine ⟨(p.1,.int v' t2)::kvs,.cons ik rfl a,congrArg (p.1::·) q,fun e he=>?_,.cons (h2 ▸ .int _ _) d⟩
   cases he with
   | head=>exact ⟨p.1,ik,of_decide_eq_true z2.2⟩
   | tail _ he=>exact r e he
inductive znP (c:Cx) (h:Heap) (prog:Program) (w:World) (a:Addr) (t:List (Int×Int)):Prop
 | mk (kvs:List (Int×Value)) (x:h.DictOf (intKind prog w) a kvs) (d:DR c AV.int h [] (t.map fun p=>(AV.int p.1,AV.int p.2)) kvs)
theorem zi0 {w:World} {h:Heap} (Y:Hd.YPV w h) {c:Cx} {prog:Program} {a:Addr} {t:List (Int×Int)} (e:qA (lk w.params a) t=true):znP c h prog w a t :=
 oB e fun o ho e=>by
  have e1:=tt e
  have e2:=tt e1.2
  have e3:=tt e2.2
  have e4:=tt e3.2
  refine zd1 e4.1 fun es ep hd hr=>?_
  obtain ⟨kvs,p,q,r,d⟩:=zjk (c:=c) (h:=h) (prog:=prog) (w:=w) hr
  obtain ⟨cl,dc,da,sl⟩:=o
  cases xJ e1.1
  cases Option.isNone_iff_eq_none.mp e2.1
  cases Array.isEmpty_iff.mp e3.1
  cases hd
  exact ⟨kvs,⟨_,es,ep,Ze Y ho,⟨rfl,rfl,rfl⟩,rfl,fun e he=>r e he.val,p,q ▸ of_decide_eq_true e4.2⟩,d⟩
noncomputable def zra (P:Params):Bool:=(List.range 3).all fun k=>qA (lk P ((zeW[k]?).getD 0)) ((Yi k).getD [])&&!((zeW[k]?).getD 0 == sysModules)
theorem zo9 (P:Params):zra P=true:=by kernel_rfl
theorem zeb (P:Params):(lk P sysModules).isSome=true:=by kernel_rfl
theorem ze7 {w:World} {h:Heap} (a:Addr) {k:Nat} (hk:k < 3):(yx w h a).cst k=(zeW[k]?).getD 0:=if_neg fun q=>absurd (Nat.eq_of_beq_eq_true q) (Nat.ne_of_lt hk)
theorem zpb {w:World} {h:Heap} (Y:Hd.YPV w h) (a:Addr) (k:Nat) (t:List (Int×Int)) (e:Yi k=some t):((yx w h a).cst k == sysModules)=false∧∃ kvs:List (Int×Value),(yx w h a).h₀.DictOf (intKind (yx w h a).prog (yx w h a).w) ((yx w h a).cst k) kvs∧DR (yx w h a) AV.int (yx w h a).h₀ [] (t.map fun p=>(AV.int p.1,AV.int p.2)) kvs:=by
 have hk:k < 3:=WV e
 have x:=tt (List.all_eq_true.mp (zo9 w.params) k (List.mem_range.mpr hk))
 rw [e] at x
 rw [ze7 a hk]
 obtain ⟨kvs,y,d⟩:=zi0 Y x.1
 exact ⟨Bool.not_eq_true' _ ▸ x.2,kvs,y,d⟩
theorem znV {w:World} {h:Heap} (Y:Hd.YPV w h) (a:Addr):Bs (yx w h a) :=
 ⟨zpg Y,zf9,fun k n e=>zkc w.params k n e,(Option.isSome_iff_exists.mp (zeb w.params)).elim fun o ho=>⟨o,Ze Y ho⟩,zpb Y a⟩
noncomputable def vrA (x:AV) (v:Value):Bool:=x.casesOn false (fun _=>false) (fun i=>zh9 v fun j=>decide (j=i)) (fun cs=>zkM v fun x=>x == zh cs) (fun _=>false) (fun _=>false) (fun k=>zbq v fun a=>Nat.blt k 3&&Nat.beq a ((zeW[k]?).getD 0))
noncomputable def zm4:List AV→List Value→Bool
 | [],vs=>vs.isEmpty
 | x::xs,vs=>match vs with
  | []=>false
  | v::vs=>vrA x v&&zm4 xs vs
noncomputable def vrT (P:Params) (x:AV) (v:Value):Bool:=x.casesOn false (fun _=>false) (fun _=>false) (fun _=>false) (fun xs=>zbq v fun a=>(lk P a).any fun o=>zlj o.cls "tuple"&&zpX o.data fun vs=>zm4 xs vs.toList) (fun _=>false) (fun _=>false)
theorem zg6 {w:World} {h:Heap} (a:Addr) {x:AV} {v:Value} (e:vrA x v=true):VR (yx w h a) h [] x v:=by
 induction x using AV.casesOn with
 | int i=>exact Y6 e fun j t z e=>by rw [z,of_decide_eq_true e]; exact .int _ _
 | str cs=>exact zam e fun j t z e=>by rw [z,eq_of_beq e]; exact .str _ _
 | cst k=>exact VC e fun j z e=>by rw [z,Nat.eq_of_beq_eq_true (tt e).2,← ze7 (w:=w) (h:=h) a (Nat.le_of_ble_eq_true (tt e).1)]; exact .cst k
 | _=>exact no e
theorem zjc {w:World} {h:Heap} (a:Addr) {xs:List AV}:∀ {vs:List Value},zm4 xs vs=true→VRs (yx w h a) h [] xs vs:=by
 induction xs with
 | nil=>exact fun {vs} e=>List.isEmpty_iff.mp (e:vs.isEmpty=true) ▸ .nil
 | cons x xs ih =>
  intro vs e
  induction vs using List.casesOn with
  | nil=>exact no e
  | cons v vs=>exact .cons (zg6 a (tt e).1) (ih (tt e).2)
theorem zkx {w:World} {h:Heap} (Y:Hd.YPV w h) (a:Addr) {x:AV} {v:Value} (e:vrT w.params x v=true):VR (yx w h a) h [] x v:=by
 induction x using AV.casesOn with
 | tup xs=>exact VC e fun j z e=>oB e fun o ho e=>zfC (tt e).2 fun vs ep hd hv=>z ▸ .tup (vs:=vs.toList) ⟨o,Ze Y ho,xJ (tt e).1,ep,hd⟩ (zjc a hv)
 | _=>exact no e
noncomputable def vrB (P:Params) (x:AV) (v:Value):Bool:=vrA x v || vrT P x v
theorem zkI {w:World} {h:Heap} (Y:Hd.YPV w h) (a:Addr) {x:AV} {v:Value} (e:vrB w.params x v=true):VR (yx w h a) h [] x v :=
 (Bool.or_eq_true_iff.mp e).elim (zg6 a) (zkx Y a)
noncomputable def dEs (e:Data):Array DictEntry:=e.casesOn #[] (fun _=>#[]) (fun _ _=>#[]) (fun es _=>es) (fun _ _ _=>#[]) (fun _ _=>#[]) (fun _=>#[]) (fun _=>#[]) (fun _=>#[]) (fun _=>#[]) #[]
@[irreducible] noncomputable def gEs (P:Params):Array DictEntry:=((lk P 3).map fun o=>dEs o.data).getD #[]
theorem zlS (P:Params):(lk P 3).isSome=true:=by kernel_rfl
theorem zbn {w:World} {h:Heap} (Y:Hd.YPV w h) {mg:Str→Option Value} (g:h.Ns 3 mg) (x:Str):mg x=nsFind (gEs w.params) x:=by
 obtain ⟨p,hq⟩:=Option.isSome_iff_exists.mp (zlS w.params)
 obtain ⟨o,es',ep',ho,hd,_,hn⟩:=g
 cases (Ze Y hq).symm.trans ho
 delta gEs
 rw [hq]
 show _=nsFind (dEs p.data) x
 rw [hd]
 exact (hn x).symm
noncomputable def zmq (P:Params):Bool:=(List.range 74).all fun i=>(KS i).all fun v=>(nsFind (gEs P) (NM.glb i)).any fun u=>vrB P v u
noncomputable def zoe (P:Params):Bool:=(List.range 149).all fun f=>(NM.fn f).all fun x=>(nsFind (gEs P) x).any fun v=>zbq v fun a=>Nat.beq a (fnA f)
noncomputable def zpY (P:Params):Bool:=(List.range 19).all fun k=>(NM.cls k).all fun x=>(nsFind (gEs P) x).any fun v=>zbq v fun a=>Nat.beq a (zd4 k)
noncomputable def zlW (P:Params):Bool:=(["len","isinstance","bool","tuple","max","min","range"]:List Str).all fun x=>(nsFind (gEs P) x).isNone
theorem zhI (P:Params):zmq P=true:=by kernel_rfl
theorem zl7 (P:Params):zoe P=true:=by kernel_rfl
theorem zk6 (P:Params):zpY P=true:=by kernel_rfl
theorem zhv (P:Params):zlW P=true:=by kernel_rfl
noncomputable def zml (P:Params) (ks:List Nat):Bool:=ks.all fun k=>Yz (KF P) (zd4 k) ((yz k).map fnA)
theorem ziY (P:Params):zml P [2,3,4,5,6,7,8,9,10,11,12,13,14,15,16,17,18]=true:=by kernel_rfl
end Mine
end
section
namespace Mine
open PySem PySem.W PyProof.Rows PySem.Calls
noncomputable def zfX (P:Params) (fd:FuncData):Bool:=zbq fd.code fun cd=>(lk P cd).any fun o=>zjV o.data fun vs=>(vs[1]?).any fun v=>zkM v fun q=>q == fd.qualname
noncomputable def zps (v:Value):Bool:=v.casesOn true false false (fun _=>false) (fun _ _=>false) (fun _ _=>false) (fun _ _=>false) (fun _ _=>false) (fun _=>false) (fun _=>false) (fun _=>false)
theorem zgq {v:Value} (h:zps v=true):v=.none:=by
 induction v using Value.casesOn with
 | none=>rfl
 | _=>exact no h
noncomputable def zkj (fd:FuncData) (ns:List Str):Bool:=fd.params.posonlyargs.isEmpty&&(fd.params.kwonlyargs.isEmpty&&(fd.params.vararg.isNone&&(fd.params.kwarg.isNone&&(zps fd.defaults&&(fd.params.args.map (·.arg) == ns)))))
noncomputable def zit (sc:Scope) (ns:List Str):Bool:=sc.names.all (fun x=>x.2 != .cell)&&(ns.all (fun x=>sc.names.lookup x == some .local)&&(!sc.isCoroutine&&(!sc.isGenerator&&sc.kind == .function)))
noncomputable def zf3 (P:Params) (n:Nat) (body:List S) (a:Addr) (lv:List Str) (fd:FuncData):Bool:=zfX P fd&&(zkj fd (lv.take n)&&(Nat.ble n lv.length&&(decide lv.Nodup&&(zit fd.scope (lv.take n)&&(Nat.beq fd.globals 3&&(Nat.beq fd.builtins 0 &&
   (typeIn (KF P) (.ref a) == some (.type "function")&&zoQ fd.body fun Sb=>Kw NM LLK lv (fun x=>fd.scope.names.lookup x) body Sb)))))))
noncomputable def j8 (P:Params) (f:Nat):Bool:=(Jz f).any fun nb=>(fnT[f]?).any fun r=>(lk P r.1).any fun o=>zg5 o.data fun fd=>zf3 P nb.1 nb.2 r.1 (r.2.2.map Str.ofString) fd
theorem zg1 {v:FuncBody} {f:List Stmt→Bool} {P:Prop} (h:zoQ v f=true) (k:∀ i,v=.stmts i→f i=true→P):P:=by
 induction v using FuncBody.casesOn with
 | stmts i=>exact k i rfl h
 | _=>exact no h
theorem zhp {w:World} {h:Heap} (Y:Hd.YPV w h) {fd:FuncData} (e:zfX w.params fd=true):h.CodeRec fd.code fd.qualname :=
 VC e fun cd e1 e=>oB e fun o ho e=>zec e fun vs e2 e=>oB e fun v hv e=>zam e fun q t e3 e=>⟨cd,o,vs,t,e1,Ze Y ho,e2,eq_of_beq e ▸ e3 ▸ hv⟩
theorem nf {b:Bool} (h:(!b)=true):b=false:=(Bool.not_eq_true' b).mp h
theorem znv {w:World} {h:Heap} (Y:Hd.YPV w h) (a:Addr) {f n:Nat} {body:List S} (hf:Jz f=some (n,body)) (e:j8 w.params f=true):jQ (yx w h a) NM LLK f n body:=by
 delta j8 at e
 rw [hf] at e
 have e:((fnT[f]?).any fun r=>(lk w.params r.1).any fun o=>zg5 o.data fun fd=>zf3 w.params n body r.1 (r.2.2.map Str.ofString) fd)=true:=e
 refine oB e fun r hr e=>oB e fun o ho e=>zej e fun fd hd e=>?_
 have hA:fnA f=r.1:=by delta fnA; rw [hr]; rfl
 clear hf hr
 obtain ⟨e1,e⟩:=tt e
 obtain ⟨p,e⟩:=tt e
 obtain ⟨e3,e⟩:=tt e
 obtain ⟨e4,e⟩:=tt e
 obtain ⟨s,e⟩:=tt e
 obtain ⟨e6,e⟩:=tt e
 obtain ⟨e7,e⟩:=tt e
 obtain ⟨e8,e9⟩:=tt e
 obtain ⟨p1,p⟩:=tt p
 obtain ⟨p2,p⟩:=tt p
 obtain ⟨p3,p⟩:=tt p
 obtain ⟨p4,p⟩:=tt p
 obtain ⟨p5,p6⟩:=tt p
 obtain ⟨s1,s⟩:=tt s
 obtain ⟨s2,s⟩:=tt s
 obtain ⟨s3,s⟩:=tt s
 obtain ⟨s4,s5⟩:=tt s
 have nd:=of_decide_eq_true e4
 have hn:=Nat.le_of_ble_eq_true e3
 refine zg1 e9 fun Sb hb e9=>.mk o fd Sb (r.2.2.map Str.ofString) (show h.get? (fnA f)=some o from hA.symm ▸ Ze Y ho) hd (show typeIn (KF w.params) (.ref (fnA f))=_ from hA.symm ▸ eq_of_beq e8) (zhp Y e1) hb (fun us hu=>?_) hn nd (fun x hx=>ne_of_beq_false (nf (List.all_eq_true.mp s1 x hx)))
  (fun x hx=>eq_of_beq (List.all_eq_true.mp s2 x hx)) (nf s3) (nf s4) (eq_of_beq s5) (Nat.eq_of_beq_eq_true e6) (Nat.eq_of_beq_eq_true e7) e9
 exact zaq (List.isEmpty_iff.mp p1) (eq_of_beq p6) (List.isEmpty_iff.mp p2) (Option.isNone_iff_eq_none.mp p3) (Option.isNone_iff_eq_none.mp p4) (zgq p5) (nd.sublist (List.take_sublist ..)) (hu.trans (List.length_take_of_le hn).symm)
noncomputable def yQ (P:Params) (k:Nat):Bool:=(List.range 20).all fun i=>Nat.ble 149 (20 * k + i) || j8 P (20 * k + i)
theorem fgs (P:Params):yQ P 0=true∧yQ P 1=true∧yQ P 2=true∧yQ P 3=true∧yQ P 4=true∧yQ P 5=true∧yQ P 6=true∧yQ P 7=true:=⟨by kernel_rfl,by kernel_rfl,by kernel_rfl,by kernel_rfl,by kernel_rfl,by kernel_rfl,by kernel_rfl,by kernel_rfl⟩
theorem fgk (P:Params) (k:Nat) (h:k∈List.range 8):yQ P k=true:=by
 obtain ⟨a0,a1,a2,a3,a4,a5,a6,a7⟩:=fgs P
 exact List.all_eq_true.mp (show ([0,1,2,3,4,5,6,7].all fun k=>yQ P k)=true by rw [List.all_cons,a0,List.all_cons,a1,List.all_cons,a2,List.all_cons,a3,List.all_cons,a4,List.all_cons,a5,List.all_cons,a6,List.all_cons,a7]; rfl) k h
theorem zba (P:Params) (f:Nat) (h:f < 149):j8 P f=true:=by
 have a:=List.all_eq_true.mp (fgk P (f / 20) (List.mem_range.mpr (Nat.div_lt_of_lt_mul (Nat.lt_trans h (by decide))))) (f % 20) (List.mem_range.mpr (Nat.mod_lt f (by decide)))
 rw [Nat.div_add_mod] at a
 exact (Bool.or_eq_true_iff.mp a).resolve_left fun c=>absurd (Nat.le_of_ble_eq_true c) (Nat.not_le.mpr h)
end Mine
end
section
namespace Mine
open PySem PySem.W PyProof.Rows PySem.Calls
noncomputable def zh1 (P:Params):Bool:=zdc.all fun x=>Y9 (KF P) (zd4 x.1) (xv x.2.1) (fnA x.2.2)
theorem zfI (P:Params):zh1 P=true:=by kernel_rfl
theorem zgi (k n f:Nat) (e:JW k n=some f):(k,n,f)∈zdc:=zhJ zdc k n e
theorem zkd {w:World} {h:Heap} {a:Addr} {mb:Str→Option Value} (hb:h.Ns 0 mb) (hx:∀ x:Str,x≠"__name__"→mb x=bootBuiltins x):zju (yx w h a) :=
 .mk mb hb ((hx _ (by decide +kernel)).trans (by decide +kernel)) ((hx _ (by decide +kernel)).trans (by decide +kernel)) ((hx _ (by decide +kernel)).trans (by decide +kernel)) ((hx _ (by decide +kernel)).trans (by decide +kernel)) ((hx _ (by decide +kernel)).trans (by decide +kernel)) ((hx _ (by decide +kernel)).trans (by decide +kernel)) ((hx _ (by decide +kernel)).trans (by decide +kernel))
theorem za9 {n:Nat} {p:Nat→Bool} (h:(List.range n).all p=true) {i:Nat} (hi:i < n):p i=true:=List.all_eq_true.mp h i (List.mem_range.mpr hi)
theorem oA {α:Type} {o:Option α} {f:α→Bool} {x:α} (h:o.all f=true) (e:o=some x):f x=true:=by rw [e] at h; exact h
theorem zmD {f:Nat} {x:Str} (e:NM.fn f=some x):f < 149:=by
 cases q:fnN[f]? with
 | none=>rw [show NM.fn f=none from congrArg (fun o:Option (Option String)=>o.join.map Str.ofString) q] at e; exact nn e
 | some y=>exact WV q
theorem zbX {k:Nat} {x:Str} (e:NM.cls k=some x):2≤k∧k < 19:=by
 have e:(if Nat.ble 2 k=true then (zio[k]?).map fun x=>Str.ofString x.1 else none)=some x:=e
 refine og e fun h e=>⟨Nat.le_of_ble_eq_true h,?_⟩
 obtain ⟨y,q,_⟩:=Option.map_eq_some_iff.mp e
 exact WV q
theorem zbC (i:Nat) (v:AV) (e:KS i=some v):i < 74:=by
 obtain ⟨x,h,_⟩:=Option.bind_eq_some_iff.mp (show (nth zb6 i).bind id=some v from e)
 exact zbs zb6 i h
theorem zjq {w:World} {h:Heap} (Y:Hd.YPV w h) {mg:Str→Option Value} (g:h.Ns 3 mg) {x:Str} {b:Addr} (e:((nsFind (gEs w.params) x).any fun v=>zbq v fun a=>Nat.beq a b)=true):mg x=some (.ref b) :=
 oB e fun v hv e=>VC e fun i e1 e=>(zbn Y g x).trans (hv.trans (congrArg some (e1.trans (congrArg Value.ref (Nat.eq_of_beq_eq_true e)))))
theorem znW {w:World} {h:Heap} (Y:Hd.YPV w h) (a:Addr) {mg mb:Str→Option Value} (g:h.Ns 3 mg) (hb:h.Ns 0 mb) (hx:∀ x:Str,x≠"__name__"→mb x=bootBuiltins x) (lim:h.NoLimit) {scr:List Int}
  (hs:∃ us:List Value,h.PlainList a us.toArray∧VRs (yx w h a) h [] (scr.map .int) us):Bk (yx w h a) NM (JK scr) where
 toBs:=znV Y a
 fe:=fun _=>rfl
 scr:=hs
 glob:=.mk mg g (fun i v e=>by have z:=oA (za9 (zhI w.params) (zbC i v e)) e; exact oB z fun u hu hv=>⟨u,(zbn Y g _).trans hu,zkI Y a hv⟩) (fun f x e=>by have z:=oA (za9 (zl7 w.params) (zmD e)) e; exact zjq Y g z)
  (fun k x e=>by have z:=oA (za9 (zk6 w.params) (zbX e).2) e; exact zjq Y g z) fun x hx=>(zbn Y g x).trans (Option.isNone_iff_eq_none.mp (List.all_eq_true.mp (zhv w.params) x hx))
 blt:=zkd hb hx
 lim:=lim
 new:=fun k x e=>List.all_eq_true.mp (ziY w.params) k ((by decide:∀ k < 19,2≤k→k∈[2,3,4,5,6,7,8,9,10,11,12,13,14,15,16,17,18]) k (zbX e).2 (zbX e).1)
 meth:=fun k n f e=>List.all_eq_true.mp (zfI w.params) _ (zgi k n f e)
end Mine
end
namespace Mine.Pl
open Mine PySem
@[irreducible] noncomputable def cf (scr:List Int) (d:Nat):zi:=Kq (JK scr) Jz d
noncomputable def znI:Fl→AV
 | .ret v=>v
 | .next=>.none
theorem bo {α β:Type} {o:Option α} {f:α→Option β} {r:β} {P:Prop} (h:o.bind f=some r) (nx:∀ x,o=some x→f x=some r→P):P:=by
 cases o with
 | none=>exact nomatch h
 | some x=>exact nx x rfl h
theorem bn {α β:Type} {o:Option α} {x:α} {f:α→Option β} {r:Option β} (h:o=some x) (h2:f x=r):o.bind f=r:=by subst h; exact h2
theorem mp {α β:Type} {o:Option α} {x:α} {f:α→β} (h:o=some x):o.map f=some (f x):=by subst h; rfl
theorem bt {α:Type} {b:Bool} {x r:Option α} (h:b=true) (h2:x=r):(match (generalizing:=false) b with | true=>x | false=>none)=r:=by subst h; exact h2
theorem ls {α:Type} {v:Option AO} {xs:List AV} {f:List AV→Option α} {r:Option α} (h:v=some (.list xs)) (h2:f xs=r):(match (generalizing:=false) v with | some (.list xs)=>f xs | _=>none)=r:=by subst h; exact h2
theorem is {α:Type} {v:Option AO} {c:Nat} {fs:List (Nat×AV)} {f:Nat→List (Nat×AV)→Option α} {r:Option α} (h:v=some (.inst c fs)) (h2:f c fs=r):(match (generalizing:=false) v with | some (.inst c fs)=>f c fs | _=>none)=r:=by subst h; exact h2
theorem mt {α:Type} {o:Option Nat} {a:Option AV} {x:Nat} {f:Nat→Option α} {r:Option α} (h:o=some x) (h1:a=none) (h2:f x=r):(match (generalizing:=false) o,a with | some f',none=>f f' | _,_=>none)=r:=by subst h h1; exact h2
theorem gl {α:Type} {o:Option AV} {x:AV} {f:AV→Option α} {r:Option α} (h:o=some x) (h2:f x=r):(match (generalizing:=false) o with | some v=>f v | none=>none)=r:=by subst h; exact h2
theorem sn {α:Type} {o:Option Nat} {x:Nat} {f:Nat→Option α} {d r:Option α} (h:o=some x) (h2:f x=r):(match (generalizing:=false) o with | some v=>f v | none=>d)=r:=by subst h; exact h2
theorem nn {α:Type} {o:Option Nat} {f:Nat→Option α} {d r:Option α} (h:o=none) (h2:d=r):(match (generalizing:=false) o with | some v=>f v | none=>d)=r:=by subst h; exact h2
section
variable (scr:List Int) (C:zi)
noncomputable def Wc (f:Nat) (vs:List AV) (H:AH) (Q:AV→AH→Prop):Prop:=∃ v H',C f vs H=some (v,H')∧Q v H'
noncomputable def We (e:X) (ρ:Loc) (H:AH) (Q:AV→AH→Prop):Prop:=∃ v H',evE (JK scr) C e ρ H=some (v,H')∧Q v H'
noncomputable def Wl (es:List X) (ρ:Loc) (H:AH) (Q:List AV→AH→Prop):Prop:=∃ v H',KB (JK scr) C es ρ H=some (v,H')∧Q v H'
noncomputable def Wt (e:X) (ρ:Loc) (H:AH) (Q:Bool→AH→Prop):Prop:=∃ v H',tst (JK scr) C e ρ H=some (v,H')∧Q v H'
noncomputable def Ws (ss:List S) (ρ:Loc) (H:AH) (Q:Fl→Loc→AH→Prop):Prop:=∃ v ρ' H',y0 (JK scr) C ss ρ H=some (v,ρ',H')∧Q v ρ' H'
noncomputable def W1 (s:S) (ρ:Loc) (H:AH) (Q:Fl→Loc→AH→Prop):Prop:=∃ v ρ' H',evS (JK scr) C s ρ H=some (v,ρ',H')∧Q v ρ' H'
end
noncomputable def Wb (op:Operator) (a b:AV) (H:AH) (Q:AV→AH→Prop):Prop:=∃ v H',qd op a b H=some (v,H')∧Q v H'
noncomputable def Wq (op:CmpOp) (a b:AV) (H:AH) (Q:Bool→AH→Prop):Prop:=∃ v,qr op a b H=some v∧Q v H
noncomputable def Wo {α:Type} (o:Option α) (Q:α→Prop):Prop:=∃ v,o=some v∧Q v
theorem Wo.of {α:Type} {o:Option α} {v:α} {Q:α→Prop} (h:o=some v) (q:Q v):Wo o Q:=⟨v,h,q⟩
noncomputable def Br (b:Bool) (P Q:Prop):Prop:=(b=true→P)∧(b=false→Q)
section
variable {scr:List Int} {C:zi} {ρ:Loc} {H:AH} {Q:AV→AH→Prop}
theorem zna (q:Q .none H):We scr C .none ρ H Q:=⟨_,_,rfl,q⟩
theorem znc {b:Bool} (q:Q (.bool b) H):We scr C (.bool b) ρ H Q:=⟨_,_,rfl,q⟩
theorem zcY {i:Int} (q:Q (.int i) H):We scr C (.int i) ρ H Q:=⟨_,_,rfl,q⟩
theorem znh {s:List Nat} (q:Q (.str s) H):We scr C (.str s) ρ H Q:=⟨_,_,rfl,q⟩
theorem zcV {i:Nat} {v:AV} (h:zc i ρ=some v) (q:Q v H):We scr C (.loc i) ρ H Q:=⟨v,H,mp h,q⟩
theorem zpB {i:Nat} {v:AV} (h:KS i=some v) (q:Q v H):We scr C (.glb i) ρ H Q:=⟨v,H,mp h,q⟩
theorem znd {op:Operator} {a b:X} (q:We scr C a ρ H fun x H1=>We scr C b ρ H1 fun y H2=>Wb op x y H2 Q):We scr C (.bin op a b) ρ H Q:=by
 obtain ⟨x,H1,h1,y,H2,h2,z,H3,h3,q⟩:=q
 exact ⟨z,H3,bn h1 (bn h2 h3),q⟩
theorem zot {a:X} {Q':AV→AH→Prop} (q:We scr C a ρ H fun x H1=>∃ i,x=.int i∧Q' (.int (-i)) H1):We scr C (.neg a) ρ H Q':=by
 obtain ⟨x,H1,h1,i,rfl,q⟩:=q
 exact ⟨_,H1,bn h1 rfl,q⟩
theorem zlp {a:X} (q:We scr C a ρ H fun x H1=>Wo (truth x) fun b=>Q (.bool (!b)) H1):We scr C (.bnot a) ρ H Q:=by
 obtain ⟨x,H1,h1,i,h2,q⟩:=q
 exact ⟨_,H1,bn h1 (mp h2),q⟩
theorem zpv {a b:X} {op:CmpOp} (q:We scr C a ρ H fun x H1=>We scr C b ρ H1 fun y H2=>Wq op x y H2 fun c H3=>Q (.bool c) H3):We scr C (.cmp a [op] [b]) ρ H Q:=by
 obtain ⟨x,H1,h1,y,H2,h2,z,h3,q⟩:=q
 exact ⟨_,H2,bn h1 (mp (x:=(z,H2)) (bn h2 (mp h3))),q⟩
theorem zez {f:Nat} {args:List X} (q:Wl scr C args ρ H fun vs H1=>Wc C f vs H1 Q):We scr C (.call f args) ρ H Q:=by
 obtain ⟨x,H1,h1,y,H2,h2,q⟩:=q
 exact ⟨_,H2,bn h1 h2,q⟩
theorem zmi {o:X} {n:Nat} (q:We scr C o ρ H fun x H1=>Wo (yI H1 x n) fun v=>Q v H1):We scr C (.attr o n) ρ H Q:=by
 obtain ⟨x,H1,h1,i,h2,q⟩:=q
 exact ⟨_,H1,bn h1 (mp h2),q⟩
theorem zjz {o i:X} (q:We scr C o ρ H fun x H1=>We scr C i ρ H1 fun y H2=>Wo (index scr H2 x y) fun v=>Q v H2):We scr C (.idx o i) ρ H Q:=by
 obtain ⟨x,H1,h1,y,H2,h2,z,h3,q⟩:=q
 exact ⟨_,H2,bn h1 (bn h2 (mp h3)),q⟩
theorem zk9 {o k:X} (q:We scr C o ρ H fun x H1=>Ke H1 x=true∧We scr C k ρ H1 fun y H2=>Wo (lookIn H2 x y) fun r=>Q (r.getD .none) H2):We scr C (.get1 o k) ρ H Q:=by
 obtain ⟨x,H1,h1,hd,y,H2,h2,r,h3,q⟩:=q
 exact ⟨_,H2,bn h1 (bt hd (bn h2 (mp h3))),q⟩
theorem zlT {o k e:X} (q:We scr C o ρ H fun x H1=>Ke H1 x=true∧We scr C k ρ H1 fun y H2=>We scr C e ρ H2 fun z H3=>Wo (lookIn H3 x y) fun r=>Q (r.getD z) H3):We scr C (.get2 o k e) ρ H Q:=by
 obtain ⟨x,H1,h1,hd,y,H2,h2,z,H3,h3,r,h4,q⟩:=q
 exact ⟨_,H3,bn h1 (bt hd (bn h2 (bn h3 (mp h4)))),q⟩
theorem zn4 {es:List X} (q:Wl scr C es ρ H fun vs H1=>Q (.tup vs) H1):We scr C (.tup es) ρ H Q:=by
 obtain ⟨x,H1,h1,q⟩:=q
 exact ⟨_,H1,mp h1,q⟩
theorem zn7 {es:List X} (q:Wl scr C es ρ H fun vs H1=>Q (.obj H1.length) (H1++[.list vs])):We scr C (.lst es) ρ H Q:=by
 obtain ⟨x,H1,h1,q⟩:=q
 exact ⟨_,_,mp h1,q⟩
theorem zpq {es:List X} (q:Wl scr C es ρ H fun vs H1=>Wo (YV vs none []) fun o=>Q (.obj H1.length) (H1++[o])):We scr C (.dic es) ρ H Q:=by
 obtain ⟨x,H1,h1,o,h2,q⟩:=q
 exact ⟨_,_,bn h1 (mp h2),q⟩
theorem zlC {e:X} (q:We scr C e ρ H fun x H1=>∃ xs,x=.tup xs∧xs.length≤big∧Q (.int xs.length) H1):We scr C (.len e) ρ H Q:=by
 obtain ⟨x,H1,h1,xs,rfl,hb,q⟩:=q
 exact ⟨_,H1,bn h1 (if_pos hb),q⟩
theorem zmV {e:X} (q:We scr C e ρ H fun x H1=>∃ r,x=.obj r∧∃ xs,H1[r]?=some (.list xs)∧xs.length≤big∧Q (.int xs.length) H1):We scr C (.len e) ρ H Q:=by
 obtain ⟨x,H1,h1,r,rfl,xs,hx,hb,q⟩:=q
 exact ⟨_,H1,bn h1 (ls hx (if_pos hb)),q⟩
theorem zgM {e:X} (hs:scr.length≤big) (q:We scr C e ρ H fun x H1=>x=.cst 3∧Q (.int scr.length) H1):We scr C (.len e) ρ H Q:=by
 obtain ⟨x,H1,h1,rfl,q⟩:=q
 exact ⟨_,H1,bn h1 (if_pos hs),q⟩
theorem zpu {e:X} (q:We scr C e ρ H fun x H1=>∃ i,x=.int i∧Q (.bool false) H1):We scr C (.isB e) ρ H Q:=by
 obtain ⟨x,H1,h1,i,rfl,q⟩:=q
 exact ⟨_,H1,bn h1 rfl,q⟩
theorem zoN {a b:X} (q:We scr C a ρ H fun x H1=>We scr C b ρ H1 fun y H2=>∃ i j,x=.int i∧y=.int j∧Q (.int (if i < j then j else i)) H2):We scr C (.max2 a b) ρ H Q:=by
 obtain ⟨x,H1,h1,y,H2,h2,i,j,rfl,rfl,q⟩:=q
 exact ⟨_,H2,bn h1 (bn h2 rfl),q⟩
theorem znS {a b:X} (q:We scr C a ρ H fun x H1=>We scr C b ρ H1 fun y H2=>∃ i j,x=.int i∧y=.int j∧Q (.int (if j < i then j else i)) H2):We scr C (.min2 a b) ρ H Q:=by
 obtain ⟨x,H1,h1,y,H2,h2,i,j,rfl,rfl,q⟩:=q
 exact ⟨_,H2,bn h1 (bn h2 rfl),q⟩
theorem zjO {Q:List AV→AH→Prop} (q:Q [] H):Wl scr C [] ρ H Q:=⟨_,_,rfl,q⟩
theorem zfG {e:X} {es:List X} {Q:List AV→AH→Prop} (q:We scr C e ρ H fun v H1=>Wl scr C es ρ H1 fun vs H2=>Q (v::vs) H2):Wl scr C (e::es) ρ H Q:=by
 obtain ⟨x,H1,h1,y,H2,h2,q⟩:=q
 exact ⟨_,H2,bn h1 (mp h2),q⟩
theorem zlJ {o:X} {n:Nat} {args:List X} (q:We scr C o ρ H fun x H1=>∃ r,x=.obj r∧∃ c fs f,H1[r]?=some (.inst c fs)∧JW c n=some f∧zc n fs=none ∧
  Wl scr C args ρ H1 fun vs H2=>Wc C f (.obj r::vs) H2 Q):We scr C (.meth o n args) ρ H Q:=by
 obtain ⟨x,H1,h1,r,rfl,c,fs,f,hr,hm,hn,vs,H2,h2,y,H3,h3,q⟩:=q
 exact ⟨_,H3,bn h1 (is hr (mt hm hn (bn h2 h3))),q⟩
theorem ze9 {o e:X} (q:We scr C o ρ H fun x H1=>∃ r,x=.obj r∧∃ xs,H1[r]?=some (.list xs)∧We scr C e ρ H1 fun y H2=>∃ ys,H2[r]?=some (.list ys)∧ys.length < big∧Q .none (H2.set r (.list (ys++[y])))) :
  We scr C (.append o e) ρ H Q:=by
 obtain ⟨x,H1,h1,r,rfl,xs,hr,y,H2,h2,ys,hy,hb,q⟩:=q
 exact ⟨_,_,bn h1 (ls hr (bn h2 (ls hy (if_pos hb)))),q⟩
theorem znR {o:X} (q:We scr C o ρ H fun x H1=>∃ r,x=.obj r∧∃ ys y,H1[r]?=some (.list (ys++[y]))∧ys.length < big∧Q y (H1.set r (.list ys))):We scr C (.pop o) ρ H Q:=by
 obtain ⟨x,H1,h1,r,rfl,ys,y,hr,hb,q⟩:=q
 exact ⟨_,_,bn h1 (ls hr (gl (List.getLast?_concat) (if_pos (by rw [List.length_append]; exact hb)))),by rw [List.dropLast_concat]; exact q⟩
theorem zb0 {o:X} (q:We scr C o ρ H fun x H1=>∃ r,x=.obj r∧∃ xs,H1[r]?=some (.list xs)∧xs.length≤big∧Q (.obj H1.length) (H1++[.list xs])):We scr C (.sliceAll o) ρ H Q:=by
 obtain ⟨x,H1,h1,r,rfl,ys,hr,hb,q⟩:=q
 exact ⟨_,_,bn h1 (ls hr (if_pos hb)),q⟩
theorem ziV {o:X} (q:We scr C o ρ H fun x H1=>∃ r,x=.obj r∧∃ xs,H1[r]?=some (.list xs)∧xs.length≤big∧Q (.tup xs) H1):We scr C (.tuple o) ρ H Q:=by
 obtain ⟨x,H1,h1,r,rfl,ys,hr,hb,q⟩:=q
 exact ⟨_,_,bn h1 (ls hr (if_pos hb)),q⟩
theorem zea {o:X} {k:Nat} (q:We scr C o ρ H fun x H1=>∃ s,x=.str s∧(1≤k∧s.length≤1000)∧Q (.str (s.take (s.length - k))) H1):We scr C (.sliceTo o k) ρ H Q:=by
 obtain ⟨x,H1,h1,r,rfl,hb,q⟩:=q
 exact ⟨_,_,bn h1 (if_pos hb),q⟩
theorem xE {o:X} {k:Nat} (q:We scr C o ρ H fun x H1=>∃ s,x=.str s∧(1≤k∧s.length≤1000)∧Q (.str (s.drop (s.length - k))) H1):We scr C (.sliceFrom o k) ρ H Q:=by
 obtain ⟨x,H1,h1,r,rfl,hb,q⟩:=q
 exact ⟨_,_,bn h1 (if_pos hb),q⟩
theorem zlI {c:Nat} (h:yz c=none) (q:Q (.obj H.length) (H++[.inst c []])):We scr C (.new c []) ρ H Q:=⟨_,_,(nn h rfl:(match yz c with | some f=>_ | none=>_)=_),q⟩
theorem znl {c f:Nat} {args:List X} (h:yz c=some f) (q:Wl scr C args ρ H fun vs H1=>Wc C f (.obj H1.length::vs) (H1++[.inst c []]) fun v H2=>v=.none∧Q (.obj H1.length) H2) :
  We scr C (.new c args) ρ H Q:=by
 obtain ⟨x,H1,h1,v,H2,h2,rfl,q⟩:=q
 exact ⟨_,_,bn h1 (sn h (bn h2 rfl)),q⟩
theorem zlK {e:X} (q:We scr C e ρ H Q):We scr C (.band [e]) ρ H Q:=by
 obtain ⟨x,H1,h1,q⟩:=q
 exact ⟨x,H1,bn h1 rfl,q⟩
theorem zne {e e':X} {es:List X} (q:We scr C e ρ H fun x H1=>Wo (truth x) fun b=>Br b (We scr C (.band (e'::es)) ρ H1 Q) (Q x H1)):We scr C (.band (e::e'::es)) ρ H Q:=by
 obtain ⟨x,H1,h1,b,hb,q⟩:=q
 cases b with
 | true =>
  obtain ⟨y,H2,h2,q⟩:=q.1 rfl
  exact ⟨y,H2,bn h1 (bn hb h2),q⟩
 | false=>exact ⟨x,H1,bn h1 (bn hb rfl),q.2 rfl⟩
theorem zpk {e:X} (q:We scr C e ρ H Q):We scr C (.bor [e]) ρ H Q:=by
 obtain ⟨x,H1,h1,q⟩:=q
 exact ⟨x,H1,bn h1 rfl,q⟩
theorem zqq {e e':X} {es:List X} (q:We scr C e ρ H fun x H1=>Wo (truth x) fun b=>Br b (Q x H1) (We scr C (.bor (e'::es)) ρ H1 Q)):We scr C (.bor (e::e'::es)) ρ H Q:=by
 obtain ⟨x,H1,h1,b,hb,q⟩:=q
 cases b with
 | false =>
  obtain ⟨y,H2,h2,q⟩:=q.2 rfl
  exact ⟨y,H2,bn h1 (bn hb h2),q⟩
 | true=>exact ⟨x,H1,bn h1 (bn hb rfl),q.1 rfl⟩
theorem zkQ {a b c:X} {op op':CmpOp} (q:We scr C a ρ H fun x H1=>We scr C b ρ H1 fun y H2=>Wq op x y H2 fun t H3=>Br t (We scr C c ρ H3 fun z H4=>Wq op' y z H4 fun u H5=>Q (.bool u) H5) (Q (.bool false) H3)) :
  We scr C (.cmp a [op,op'] [b,c]) ρ H Q:=by
 obtain ⟨x,H1,h1,y,H2,h2,t,h3,q⟩:=q
 cases t with
 | true =>
  obtain ⟨z,H4,h4,u,h5,q⟩:=q.1 rfl
  exact ⟨_,H4,bn h1 (mp (x:=(u,H4)) (bn h2 (bn h3 (bn h4 (mp h5))))),q⟩
 | false=>exact ⟨_,H2,bn h1 (mp (x:=(false,H2)) (bn h2 (bn h3 rfl))),q.2 rfl⟩
end
section
variable {scr:List Int} {C:zi} {ρ:Loc} {H:AH} {Q:Bool→AH→Prop}
theorem zoh {e:X} (q:Wt scr C e ρ H fun b H1=>Q (!b) H1):Wt scr C (.bnot e) ρ H Q:=by
 obtain ⟨x,H1,h1,q⟩:=q
 exact ⟨_,H1,mp h1,q⟩
theorem zjR {a b:X} {op:CmpOp} (q:We scr C a ρ H fun x H1=>We scr C b ρ H1 fun y H2=>Wq op x y H2 Q):Wt scr C (.cmp a [op] [b]) ρ H Q:=by
 obtain ⟨x,H1,h1,y,H2,h2,z,h3,q⟩:=q
 exact ⟨_,H2,bn h1 (bn h2 (mp h3)),q⟩
theorem zkf {a b c:X} {op op':CmpOp} (q:We scr C a ρ H fun x H1=>We scr C b ρ H1 fun y H2=>Wq op x y H2 fun t H3=>Br t (We scr C c ρ H3 fun z H4=>Wq op' y z H4 Q) (Q false H3)) :
  Wt scr C (.cmp a [op,op'] [b,c]) ρ H Q:=by
 obtain ⟨x,H1,h1,y,H2,h2,t,h3,q⟩:=q
 cases t with
 | true =>
  obtain ⟨z,H4,h4,u,h5,q⟩:=q.1 rfl
  exact ⟨_,H4,bn h1 (bn h2 (bn h3 (bn h4 (mp h5)))),q⟩
 | false=>exact ⟨_,H2,bn h1 (bn h2 (bn h3 rfl)),q.2 rfl⟩
theorem zlF (q:Q true H):Wt scr C (.band []) ρ H Q:=⟨_,_,rfl,q⟩
theorem znC {e:X} {es:List X} (q:Wt scr C e ρ H fun b H1=>Br b (Wt scr C (.band es) ρ H1 Q) (Q false H1)):Wt scr C (.band (e::es)) ρ H Q:=by
 obtain ⟨b,H1,h1,q⟩:=q
 cases b with
 | true =>
  obtain ⟨y,H2,h2,q⟩:=q.1 rfl
  exact ⟨y,H2,bn h1 h2,q⟩
 | false=>exact ⟨_,H1,bn h1 rfl,q.2 rfl⟩
theorem znG (q:Q false H):Wt scr C (.bor []) ρ H Q:=⟨_,_,rfl,q⟩
theorem zp7 {e:X} {es:List X} (q:Wt scr C e ρ H fun b H1=>Br b (Q true H1) (Wt scr C (.bor es) ρ H1 Q)):Wt scr C (.bor (e::es)) ρ H Q:=by
 obtain ⟨b,H1,h1,q⟩:=q
 cases b with
 | false =>
  obtain ⟨y,H2,h2,q⟩:=q.2 rfl
  exact ⟨y,H2,bn h1 h2,q⟩
 | true=>exact ⟨_,H1,bn h1 rfl,q.1 rfl⟩
theorem zlV {f:Nat} {args:List X} (q:We scr C (.call f args) ρ H fun x H1=>Wo (truth x) fun b=>Q b H1):Wt scr C (.call f args) ρ H Q:=by
 obtain ⟨x,H1,h1,b,h2,q⟩:=q
 exact ⟨_,H1,bn h1 (mp h2),q⟩
theorem zpe {i:Nat} (q:We scr C (.loc i) ρ H fun x H1=>Wo (truth x) fun b=>Q b H1):Wt scr C (.loc i) ρ H Q:=by
 obtain ⟨x,H1,h1,b,h2,q⟩:=q
 exact ⟨_,H1,bn h1 (mp h2),q⟩
theorem zoj {op:Operator} {a b:X} (q:We scr C (.bin op a b) ρ H fun x H1=>Wo (truth x) fun b=>Q b H1):Wt scr C (.bin op a b) ρ H Q:=by
 obtain ⟨x,H1,h1,b,h2,q⟩:=q
 exact ⟨_,H1,bn h1 (mp h2),q⟩
theorem zn0 {e:X} (q:We scr C (.isB e) ρ H fun x H1=>Wo (truth x) fun b=>Q b H1):Wt scr C (.isB e) ρ H Q:=by
 obtain ⟨x,H1,h1,b,h2,q⟩:=q
 exact ⟨_,H1,bn h1 (mp h2),q⟩
end
section
variable {scr:List Int} {C:zi} {ρ:Loc} {H:AH} {Q:Fl→Loc→AH→Prop} {ss:List S}
theorem zo5 (q:Q .next ρ H):Ws scr C [] ρ H Q:=⟨_,_,_,rfl,q⟩
theorem yg {s:S} (q:W1 scr C s ρ H fun fl ρ1 H1=>match fl with | .next=>Ws scr C ss ρ1 H1 Q | .ret v=>Q (.ret v) ρ1 H1):Ws scr C (s::ss) ρ H Q:=by
 obtain ⟨fl,ρ1,H1,h1,q⟩:=q
 cases fl with
 | next =>
  obtain ⟨fl,ρ2,H2,h2,q⟩:=q
  exact ⟨fl,ρ2,H2,bn h1 h2,q⟩
 | ret v=>exact ⟨_,ρ1,H1,bn h1 rfl,q⟩
noncomputable abbrev nxW (scr:List Int) (C:zi) (ss:List S) (Q:Fl→Loc→AH→Prop) (fl:Fl) (ρ:Loc) (H:AH):Prop:=match fl with | .next=>Ws scr C ss ρ H Q | .ret v=>Q (.ret v) ρ H
theorem zoR {x:List S}:∀ {ρ:Loc} {H:AH},Ws scr C (x++ss) ρ H Q→Ws scr C x ρ H (nxW scr C ss Q):=by
 induction x with
 | nil=>exact fun {ρ} {H} q=>⟨.next,ρ,H,rfl,q⟩
 | cons s x ih =>
  intro ρ H q
  obtain ⟨fl,ρ1,H1,h1,q⟩:=q
  refine bo h1 fun p hs h1=>?_
  obtain ⟨fl',ρ',H'⟩:=p
  refine yg ⟨fl',ρ',H',hs,?_⟩
  refine (?_:∀ r:Fl×Loc×AH,_=some r→Q r.1 r.2.1 r.2.2→_) _ h1 q
  intro r h1 q
  induction fl' using Fl.casesOn with
  | next=>exact ih ⟨r.1,r.2.1,r.2.2,h1,q⟩
  | ret v=>cases Option.some.inj (show some (Fl.ret v,ρ',H')=some r from h1); exact q
theorem zjZ {t:X} {b o:List S} (q:Wt scr C t ρ H fun c H1=>Br c (Ws scr C (b++ss) ρ H1 Q) (Ws scr C (o++ss) ρ H1 Q)):Ws scr C (.ite t b o::ss) ρ H Q:=by
 obtain ⟨c,H1,h1,q⟩:=q
 refine yg ?_
 induction c using Bool.casesOn with
 | true =>
  obtain ⟨fl,ρ2,H2,h2,q⟩:=zoR (q.1 rfl)
  exact ⟨fl,ρ2,H2,bn h1 h2,q⟩
 | false =>
  obtain ⟨fl,ρ2,H2,h2,q⟩:=zoR (q.2 rfl)
  exact ⟨fl,ρ2,H2,bn h1 h2,q⟩
theorem zlm {e:X} (q:We scr C e ρ H fun _ H1=>Ws scr C ss ρ H1 Q):Ws scr C (.expr e::ss) ρ H Q:=by
 obtain ⟨x,H1,h1,q⟩:=q
 exact yg ⟨.next,ρ,H1,mp h1,q⟩
theorem zo2 {e:X} (q:We scr C e ρ H fun v H1=>Q (.ret v) ρ H1):Ws scr C (.ret e::ss) ρ H Q:=by
 obtain ⟨x,H1,h1,q⟩:=q
 exact yg ⟨.ret x,ρ,H1,mp h1,q⟩
theorem jd {i:Nat} {e:X} (q:We scr C e ρ H fun v H1=>Ws scr C ss (zf i v ρ) H1 Q):Ws scr C (.set (.name i) e::ss) ρ H Q:=by
 obtain ⟨x,H1,h1,q⟩:=q
 exact yg ⟨.next,_,H1,bn h1 rfl,q⟩
theorem zle {o e:X} {n:Nat} (q:We scr C e ρ H fun v H1=>We scr C o ρ H1 fun x H2=>Wo (yv H2 x n v) fun H3=>Ws scr C ss ρ H3 Q):Ws scr C (.set (.attr o n) e::ss) ρ H Q:=by
 obtain ⟨x,H1,h1,y,H2,h2,H3,h3,q⟩:=q
 exact yg ⟨.next,_,H3,bn h1 (bn h2 (mp h3)),q⟩
theorem znx {o i e:X} (q:We scr C e ρ H fun v H1=>We scr C o ρ H1 fun x H2=>We scr C i ρ H2 fun y H3=>Wo (yT H3 x y v) fun H4=>Ws scr C ss ρ H4 Q):Ws scr C (.set (.idx o i) e::ss) ρ H Q:=by
 obtain ⟨x,H1,h1,y,H2,h2,z,H3,h3,H4,h4,q⟩:=q
 exact yg ⟨.next,_,H4,bn h1 (bn h2 (bn h3 (mp h4))),q⟩
theorem zji {is:List Nat} {e:X} (q:We scr C e ρ H fun v H1=>∃ vs,v=.tup vs∧Wo (y8 is vs ρ) fun ρ1=>Ws scr C ss ρ1 H1 Q):Ws scr C (.set (.names is) e::ss) ρ H Q:=by
 obtain ⟨x,H1,h1,vs,rfl,ρ1,h2,q⟩:=q
 exact yg ⟨.next,_,H1,bn h1 (mp h2),q⟩
theorem zk5 {o e:X} {n:Nat} {op:Operator} (q:We scr C o ρ H fun x H1=>Wo (yI H1 x n) fun a=>We scr C e ρ H1 fun y H2=>∃ i j,a=.int i∧y=.int j∧Wb op (.int i) (.int j) H2 fun v H3=>Wo (yv H3 x n v) fun H4=>Ws scr C ss ρ H4 Q) :
  Ws scr C (.augA o n op e::ss) ρ H Q:=by
 obtain ⟨x,H1,h1,a,h2,y,H2,h3,i,j,rfl,rfl,v,H3,h4,H4,h5,q⟩:=q
 exact yg ⟨.next,_,H4,bn h1 (bn h2 (bn h3 (bn h4 (mp h5)))),q⟩
theorem zld {i:Nat} {e:X} {op:Operator} (q:Wo (zc i ρ) fun a=>We scr C e ρ H fun y H2=>∃ k j,a=.int k∧y=.int j∧Wb op (.int k) (.int j) H2 fun v H3=>Ws scr C ss (zf i v ρ) H3 Q) :
  Ws scr C (.augN i op e::ss) ρ H Q:=by
 obtain ⟨a,h1,y,H2,h3,k,j,rfl,rfl,v,H3,h4,q⟩:=q
 exact yg ⟨.next,_,H3,bn h1 (bn h3 (mp h4)),q⟩
theorem zon {o:X} (q:We scr C o ρ H fun x H1=>∃ r,x=.obj r∧∃ xs,H1[r]?=some (.list xs)∧xs.length≤big∧Ws scr C ss ρ (H1.set r (.list [])) Q):Ws scr C (.delAll o::ss) ρ H Q:=by
 obtain ⟨x,H1,h1,r,rfl,ys,hr,hb,q⟩:=q
 exact yg ⟨.next,ρ,_,bn h1 (ls hr (if_pos hb)),q⟩
noncomputable def W4 (scr:List Int) (C:zi) (i:Nat) (b:List S) (same:AH→Bool) (vs:List AV) (ρ:Loc) (H:AH) (Q:Fl→Loc→AH→Prop):Prop :=
 ∃ fl ρ' H',Vt (fun v ρ H=>y0 (JK scr) C b (zf i v ρ) H) same vs ρ H=some (fl,ρ',H')∧Q fl ρ' H'
theorem zoK {i:Nat} {b:List S} {same:AH→Bool} (q:Q .next ρ H):W4 scr C i b same [] ρ H Q:=⟨_,_,_,rfl,q⟩
theorem zmn {i:Nat} {b:List S} {same:AH→Bool} {v:AV} {vs:List AV}
  (q:Ws scr C b (zf i v ρ) H fun fl ρ1 H1=>match fl with | .next=>same H1=true∧W4 scr C i b same vs ρ1 H1 Q | .ret v=>Q (.ret v) ρ1 H1):W4 scr C i b same (v::vs) ρ H Q:=by
 obtain ⟨fl,ρ1,H1,h1,q⟩:=q
 cases fl with
 | ret v=>exact ⟨_,_,_,bn h1 rfl,q⟩
 | next =>
  obtain ⟨hs,fl,ρ2,H2,h2,q⟩:=q
  exact ⟨fl,ρ2,H2,bn h1 (bt hs h2),q⟩
noncomputable def jR (scr:List Int) (C:zi) (ss:List S) (Q:Fl→Loc→AH→Prop) (fl:Fl) (ρ:Loc) (H:AH):Prop:=match fl with | .next=>Ws scr C ss ρ H Q | .ret v=>Q (.ret v) ρ H
theorem zhh {i:Nat} {e:X} {b:List S} (q:We scr C e ρ H fun v H1=>∃ n:Int,v=.int n∧(-1000≤n∧n≤1000)∧W4 scr C i b (fun _=>true) (yo n.toNat) ρ H1 (jR scr C ss Q)) :
  Ws scr C (.loop i (.range e) b::ss) ρ H Q:=by
 obtain ⟨x,H1,h1,n,rfl,hn,fl,ρ2,H2,h2,q⟩:=q
 exact yg ⟨fl,ρ2,H2,bn h1 ((if_pos hn).trans h2),by cases fl <;> exact q⟩
theorem zf4 {i:Nat} {e:X} {b:List S} (he:∀ x,e≠.range x) (q:We scr C e ρ H fun v H1=>Wo (YL H1 v) fun p=>W4 scr C i b p.2 p.1 ρ H1 (jR scr C ss Q)) :
  Ws scr C (.loop i e b::ss) ρ H Q:=by
 obtain ⟨x,H1,h1,p,hp,fl,ρ2,H2,h2,q⟩:=q
 refine yg ⟨fl,ρ2,H2,?_,by cases fl <;> exact q⟩
 have h:((evE (JK scr) C e ρ H).bind fun p=>(YL p.2 p.1).bind fun q=>Vt (fun v ρ H=>y0 (JK scr) C b (zf i v ρ) H) q.2 q.1 ρ p.2)=some (fl,ρ2,H2):=bn h1 (bn hp h2)
 cases e <;> first | exact h | exact absurd rfl (he _)
theorem zp3 {i f:Nat} {ks:List (List Nat)} {b:List S} (q:W4 scr C i b (fun _=>true) (ks.map .str) ρ H (jR scr C ss Q)):Ws scr C (.loopK i f ks b::ss) ρ H Q:=by
 obtain ⟨fl,ρ2,H2,h2,q⟩:=q
 exact yg ⟨fl,ρ2,H2,h2,by cases fl <;> exact q⟩
end
theorem zhe {scr:List Int} {d f n:Nat} {vs:List AV} {H:AH} {b:List S} {Q:AV→AH→Prop} (h:Jz f=some (n,b)) (hn:Nat.beq vs.length n=true)
  (q:Ws scr (cf scr d) b (yt 0 vs) H fun fl _ H1=>Q (znI fl) H1):Wc (cf scr (d + 1)) f vs H Q:=by
 obtain ⟨fl,ρ,H1,h1,q⟩:=q
 refine ⟨_,H1,?_,q⟩
 unfold cf at h1 ⊢
 show (Jz f).bind (zkk (y0 (JK scr) (Kq (JK scr) Jz d)) vs H)=_
 rw [h]
 show (match Nat.beq vs.length n with | false=>none | true=>_)=_
 rw [hn]
 show (y0 (JK scr) (Kq (JK scr) Jz d) b _ H).map _=_
 rw [h1]; cases fl <;> rfl
section
variable {H:AH} {Q:AV→AH→Prop} {x y:Int}
theorem zn8 (q:Q (.int (x + y)) H):Wb .Add (.int x) (.int y) H Q:=⟨_,_,rfl,q⟩
theorem zng (q:Q (.int (x - y)) H):Wb .Sub (.int x) (.int y) H Q:=⟨_,_,rfl,q⟩
theorem zpT (h:x.natAbs < 2 ^ 64∨y.natAbs < 2 ^ 64) (q:Q (.int (x * y)) H):Wb .Mult (.int x) (.int y) H Q:=⟨_,_,if_pos h,q⟩
theorem zm1 (h:¬ (y=0∨2 ^ 65≤y.natAbs)) (q:Q (.int (x.fdiv y)) H):Wb .FloorDiv (.int x) (.int y) H Q:=⟨_,_,if_neg h,q⟩
theorem zpO (h:¬ (y=0∨2 ^ 65≤y.natAbs)) (q:Q (.int (x.fmod y)) H):Wb .Mod (.int x) (.int y) H Q:=⟨_,_,if_neg h,q⟩
theorem zol (h:x.natAbs < 2 ^ 64∧0≤y∧y≤64) (q:Q (.int (x ^ y.toNat)) H):Wb .Pow (.int x) (.int y) H Q:=⟨_,_,if_pos h,q⟩
theorem zoq (h:x.natAbs < 2 ^ 64∧0≤y∧y≤64) (q:Q (.int (x * 2 ^ y.toNat)) H):Wb .LShift (.int x) (.int y) H Q:=⟨_,_,if_pos h,q⟩
theorem zo3 (h:0≤y) (q:Q (.int (x.fdiv (2 ^ y.toNat))) H):Wb .RShift (.int x) (.int y) H Q:=⟨_,_,if_pos h,q⟩
theorem znH (q:Q (.int (Builtin.bitAnd x y)) H):Wb .BitAnd (.int x) (.int y) H Q:=⟨_,_,rfl,q⟩
theorem zl6 {s t:List Nat} (h:s.length + t.length≤1000) (q:Q (.str (s++t)) H):Wb .Add (.str s) (.str t) H Q:=⟨_,_,if_pos h,q⟩
theorem zkn {r p:Nat} {xs ys:List AV} (hr:H[r]?=some (.list xs)) (hp:H[p]?=some (.list ys)) (h:xs.length + ys.length≤big) (q:Q (.obj H.length) (H++[.list (xs++ys)])):Wb .Add (.obj r) (.obj p) H Q:=⟨_,_,VE hr (VE hp (if_pos h)),q⟩
theorem zmR {r:Nat} {xs:List AV} (hr:H[r]?=some (.list xs)) (h:0≤y∧y≤100∧xs.length≤2) (q:Q (.obj H.length) (H++[.list (List.replicate y.toNat xs).flatten])):Wb .Mult (.obj r) (.int y) H Q:=⟨_,_,VE hr (if_pos h),q⟩
end
section
variable {H:AH} {Q:Bool→AH→Prop} {x y:Int} {s t:List Nat}
theorem zpa (q:Q (decide (x=y)) H):Wq .Eq (.int x) (.int y) H Q:=⟨_,rfl,q⟩
theorem zn9 (q:Q (!decide (x=y)) H):Wq .NotEq (.int x) (.int y) H Q:=⟨_,rfl,q⟩
theorem zqg (q:Q (decide (x < y)) H):Wq .Lt (.int x) (.int y) H Q:=⟨_,rfl,q⟩
theorem zqh (q:Q (decide (x≤y)) H):Wq .LtE (.int x) (.int y) H Q:=⟨_,rfl,q⟩
theorem zpp (q:Q (decide (y < x)) H):Wq .Gt (.int x) (.int y) H Q:=⟨_,rfl,q⟩
theorem zqu (q:Q (decide (y≤x)) H):Wq .GtE (.int x) (.int y) H Q:=⟨_,rfl,q⟩
theorem zpm (q:Q (decide (s=t)) H):Wq .Eq (.str s) (.str t) H Q:=⟨_,rfl,q⟩
theorem zoC (q:Q (!decide (s=t)) H):Wq .NotEq (.str s) (.str t) H Q:=⟨_,rfl,q⟩
theorem zn2 {xs ys:List AV} (h:(xs.all (zg 5)&&ys.all (zg 5))=true) (q:Q (AV.eqbs xs ys) H):Wq .Eq (.tup xs) (.tup ys) H Q:=⟨_,if_pos h,q⟩
theorem zph {xs ys:List AV} (h:(xs.all (zg 5)&&ys.all (zg 5))=true) (q:Q (!AV.eqbs xs ys) H):Wq .NotEq (.tup xs) (.tup ys) H Q :=
 ⟨_,(congrArg (Option.map (!·)) (if_pos h:eqA (.tup xs) (.tup ys) H=some (AV.eqbs xs ys)):_),q⟩
theorem zok {r p:Nat} {xs ys:List AV} (hr:H[r]?=some (.list xs)) (hp:H[p]?=some (.list ys)) (h:(xs.all (zg 6)&&ys.all (zg 6))=true) (q:Q (AV.eqbs xs ys) H):Wq .Eq (.obj r) (.obj p) H Q:=⟨_,JU hr (VE hp (if_pos h)),q⟩
theorem zno {r p:Nat} {xs ys:List AV} (hr:H[r]?=some (.list xs)) (hp:H[p]?=some (.list ys)) (h:(xs.all (zg 6)&&ys.all (zg 6))=true) (q:Q (!AV.eqbs xs ys) H):Wq .NotEq (.obj r) (.obj p) H Q:=⟨_,(congrArg (Option.map (!·)) (JU hr (VE hp (if_pos h)):eqA (.obj r) (.obj p) H=some (AV.eqbs xs ys)):_),q⟩
theorem zpZ {r:Nat} (q:Q false H):Wq .Is (.obj r) .none H Q:=⟨_,rfl,q⟩
theorem znB {xs:List AV} (q:Q false H):Wq .Is (.tup xs) .none H Q:=⟨_,rfl,q⟩
theorem zpc (q:Q true H):Wq .Is .none .none H Q:=⟨_,rfl,q⟩
theorem zi7 {r:Nat} (q:Q true H):Wq .IsNot (.obj r) .none H Q:=⟨_,rfl,q⟩
theorem zjg {xs:List AV} (q:Q true H):Wq .IsNot (.tup xs) .none H Q:=⟨_,rfl,q⟩
theorem zhu (q:Q false H):Wq .IsNot .none .none H Q:=⟨_,rfl,q⟩
theorem zoI {a:AV} {ys:List AV} (h:(zg 5 a&&ys.all (zg 5))=true) (q:Q (ys.any fun y=>AV.eqb y a) H):Wq .In a (.tup ys) H Q:=⟨_,if_pos h,q⟩
theorem zpn {a:AV} {r:Nat} (q:Wo (lookIn H (.obj r) a) fun v=>Q v.isSome H):Wq .In a (.obj r) H Q:=by
 obtain ⟨v,h,q⟩:=q
 exact ⟨_,by show (lookIn H (.obj r) a).map _=_; rw [h]; rfl,q⟩
theorem zmP {a:AV} {r:Nat} (q:Wo (lookIn H (.obj r) a) fun v=>Q (!v.isSome) H):Wq .NotIn a (.obj r) H Q:=by
 obtain ⟨v,h,q⟩:=q
 exact ⟨_,by show ((lookIn H (.obj r) a).map _).map _=_; rw [h]; rfl,q⟩
end
section
variable {scr:List Int} {H:AH} {r:Nat}
theorem zpL {c n:Nat} {fs:List (Nat×AV)} {v:AV} {Q:AV→Prop} (hr:H[r]?=some (.inst c fs)) (h1:JA c n=true) (h2:zc n fs=some v) (q:Q v):Wo (yI H (.obj r) n) Q:=⟨v,zcQ hr ((if_pos h1).trans h2),q⟩
theorem zoT {c n:Nat} {fs:List (Nat×AV)} {v:AV} {Q:AH→Prop} (hr:H[r]?=some (.inst c fs)) (h1:JA c n=true) (h2:fs.length < 100) (q:Q (H.set r (.inst c (zf n v fs)))):Wo (yv H (.obj r) n v) Q:=⟨_,zcQ hr (if_pos ⟨h1,h2⟩),q⟩
theorem znf {xs:List AV} {k:Int} {v:AV} {Q:AV→Prop} (h:0≤k∧k < 1000000) (hv:xs[k.toNat]?=some v) (q:Q v):Wo (index scr H (.tup xs) (.int k)) Q :=
 ⟨v,(if_pos h).trans hv,q⟩
theorem zjN {k:Int} {i:Int} {Q:AV→Prop} (h:0≤k∧k < 1000000) (hv:scr[k.toNat]?=some i) (q:Q (.int i)):Wo (index scr H (.cst 3) (.int k)) Q :=
 ⟨_,(if_pos h).trans (by rw [hv]; rfl),q⟩
theorem zoG {xs:List AV} {k:Int} {v:AV} {Q:AV→Prop} (hr:H[r]?=some (.list xs)) (h:0≤k∧k < 1000000) (hv:xs[k.toNat]?=some v) (q:Q v):Wo (index scr H (.obj r) (.int k)) Q:=⟨v,JU hr ((if_pos h).trans hv),q⟩
theorem zkt {kd:Option KK} {es:List (AV×AV)} {k:AV} {v:Option AV} {Q:Option AV→Prop} (hr:H[r]?=some (.dict kd es)) (h:Wh kd es k=some v) (q:Q v):Wo (lookIn H (.obj r) k) Q:=⟨v,zdm hr h,q⟩
theorem zkV {kd:Option KK} {es:List (AV×AV)} {k v:AV} {Q:AV→Prop} (hr:H[r]?=some (.dict kd es)) (h:Wh kd es k=some (some v)) (q:Q v):Wo (index scr H (.obj r) k) Q:=⟨v,JU hr (congrArg Option.join h),q⟩
theorem zqr {kd:Option KK} {es:List (AV×AV)} (hr:H[r]?=some (.dict kd es)):Ke H (.obj r)=true:=by
 show (match H[r]? with | some (AO.dict _ _)=>true | _=>false)=_; rw [hr]
theorem zoF {xs:List AV} {k:Int} {v:AV} {Q:AH→Prop} (hr:H[r]?=some (.list xs)) (h:0≤k∧k < xs.length∧k < 1000000) (q:Q (H.set r (.list (xs.set k.toNat v)))):Wo (yT H (.obj r) (.int k) v) Q:=⟨_,JU hr (if_pos h),q⟩
theorem zlu {kd:Option KK} {es:List (AV×AV)} {k v:AV} {o:AO} {Q:AH→Prop} (hr:H[r]?=some (.dict kd es)) (h:Yq kd es k v=some o) (q:Q (H.set r o)):Wo (yT H (.obj r) k v) Q:=⟨_,JU hr (congrArg (Option.map _) h),q⟩
theorem zfw {E:AH} {o:AO} (h:H[r]?=some o):(H++E)[r]?=some o:=by
 rw [List.getElem?_append_left (List.getElem?_eq_some_iff.mp h).1]; exact h
theorem zlP {o:AO}:(H++[o])[H.length]?=some o:=by simp
theorem zni {i:Nat} {o x:AO} (n:i≠r) (h:H[i]?=some o):(H.set r x)[i]?=some o:=by
 rw [List.getElem?_set_ne (Ne.symm n)]; exact h
theorem zpt {o x:AO} (h:H[r]?=some o):(H.set r x)[r]?=some x:=by
 rw [List.getElem?_set_self (List.getElem?_eq_some_iff.mp h).1]
end
theorem zco {b:Bool} {P Q:Prop} (h:b=true) (p:P):Br b P Q:=⟨fun _=>p,fun e=>absurd (h.symm.trans e) (by decide)⟩
theorem xw {b:Bool} {P Q:Prop} (h:b=false) (q:Q):Br b P Q:=⟨fun e=>absurd (h.symm.trans e) (by decide),fun _=>q⟩
theorem zmp {p:Prop} [Decidable p] {P Q:Prop} (h:p) (q:P):Br (decide p) P Q:=zco (decide_eq_true h) q
theorem zko {p:Prop} [Decidable p] {P Q:Prop} (h:¬ p) (q:Q):Br (decide p) P Q:=xw (decide_eq_false h) q
theorem zls {p:Prop} [Decidable p] {P Q:Prop} (h:¬ p) (q:P):Br (!decide p) P Q:=zco (by rw [decide_eq_false h]; rfl) q
theorem zkY {p:Prop} [Decidable p] {P Q:Prop} (h:p) (q:Q):Br (!decide p) P Q:=xw (by rw [decide_eq_true h]; rfl) q
theorem zeD {p:Prop} [Decidable p] {P Q:Prop} (h1:p→P) (h2:¬ p→Q):Br (decide p) P Q:=⟨fun e=>h1 (of_decide_eq_true e),fun e=>h2 (of_decide_eq_false e)⟩
structure Sta where
 rows:List AV
 index:List (AV×AV)
 depths:List AV
 opens:List AV
structure Stb where
 top:Int
 fresh:Int
 made:Int
 things:List AV
 at_:List (AV×AV)
 cards:List (AV×AV)
structure Stc where
 state:Int
 told:List AV
 thrown:List AV
 kin:List (AV×AV)
structure Std where
 kinds:List (AV×AV)
 arrays:List (AV×AV)
 order:List AV
 wcards:List (AV×AV)
 wtop:Int
 bits:Int
structure St extends Sta,Stb,Stc,Std where
 pre:Int
 stk:Nat
 dyn:List (Nat×AO)
noncomputable def dk (a:KK) (es:List (AV×AV)):Option KK:=match es with | []=>none | _::_=>some a
noncomputable def mF (st:Int):List (Nat×AV):=[(46,.obj 0),(47,.obj 1),(25,.obj 11),(48,.obj 18),(2,.obj 19),(49,.obj 20),(50,.obj 21),(51,.obj 22),(21,.obj 23),(26,.obj 24),(52,.obj 25),(13,.int 0),(43,.int st),(53,.obj 26),(54,.obj 27),(27,.obj 28),(55,.obj 29),(56,.obj 30),(57,.obj 31),(44,.obj 32),(58,.none),(59,.none),(60,.int 60),(61,.obj 33),(62,.obj 34),(63,.obj 35),(64,.str []),(65,.obj 36),(66,.obj 37),(67,.obj 38),(68,.obj 39)]
noncomputable def hF (top fresh made bits:Int):List (Nat×AV):=[(14,.obj 12),(1,.obj 13),(15,.int top),(16,.int 400),(17,.obj 14),(18,.int bits),(19,.int fresh),(20,.int 101),(21,.obj 15),(22,.obj 16),(23,.int 0),(24,.int made)]
noncomputable def fF (stk:Nat) (pre:Int):List (Nat×AV):=[(31,.int 1),(32,.tup [.int 24,.int 1,.tup [.int 17,.int 4]]),(33,.none),(34,.int 0),(28,.obj 52),(30,.obj 54),(35,.obj stk),(36,.obj 56),(37,.obj 57),(38,.obj 58),(29,.obj 59),(39,.int 0),(40,.int 1),(41,.int 0),(42,.int pre)]
noncomputable def wF (bits wtop:Int):List (AV×AV):=[(.str [109],.obj 17),(.str [102],.obj 53),(.str [107,105,110,100,115],.obj 40),(.str [111,98,106,101,99,116,115],.obj 60),(.str [101,120,97,99,116],.obj 61),(.str [97,114,114,97,121,115],.obj 76),(.str [111,114,100,101,114],.obj 77),(.str [99,97,114,100,115],.obj 78),(.str [98,105,116,115],.int bits),(.str [116,111,112],.int wtop)]
noncomputable def tF (addr kind:Int) (slots:Nat) (gen size serial:Int):List (Nat×AV):=[(8,.int addr),(9,.int kind),(10,.obj slots),(11,.int gen),(12,.int size),(13,.int serial)]
noncomputable def Wa:List AV:=[.int 16,.int 19,.int 22,.int 25,.int 28,.int 31,.int 34]
noncomputable def zb7:List (AV×AV):=[(.int 16,.str [97]),(.int 19,.str [98]),(.int 22,.str [99]),(.int 25,.str [100]),(.int 28,.str [116]),(.int 31,.str [105,52]),(.int 34,.str [101])]
noncomputable def zdn:List (AV×AV):=[(.int 22,.tup [.int 5,.int 22,.tup [.tup [.int 1,.int 0],.tup [.int 4,.int 0]]]),(.int 23,.tup [.int 5,.int 23,.tup [.tup [.int 1,.int 0],.tup [.int 4,.int 0]]])]
noncomputable def zoS (σ:St):List (Nat×AO) :=
 (1,.inst 2 [(2,.obj 2),(3,.obj 3),(4,.obj 4),(5,.obj 5)])::(2,.list σ.rows)::(3,.dict (some .tup) σ.index)::(4,.list σ.depths)::(5,.list σ.opens) ::
 (11,.inst 4 (hF σ.top σ.fresh σ.made σ.bits))::(12,.list σ.things)::(13,.dict (some .int) σ.at_)::(14,.dict (dk .int σ.cards) σ.cards) ::
 (17,.inst 11 (mF σ.state))::(18,.dict (dk .tup σ.kin) σ.kin)::(21,.dict (some .int) zdn)::(22,.dict (some .int) [(.int 21,.int 5)])::(24,.list [.obj 53])::(25,.dict none []) ::
 (26,.list σ.told)::(27,.list σ.thrown)::(36,.inst 5 [(25,.obj 11),(26,.obj 25),(27,.obj 28)])::(40,.dict (some .str) σ.kinds)::(53,.inst 6 (fF σ.stk σ.pre)) ::
 (60,.list Wa)::(61,.dict (some .int) zb7) ::
 (63,.inst 3 (tF 16 16 62 0 3 1))::(65,.inst 3 (tF 19 17 64 0 3 2))::(67,.inst 3 (tF 22 18 66 0 3 3))::(69,.inst 3 (tF 25 19 68 0 3 4))::(71,.inst 3 (tF 28 13 70 0 3 5))::(73,.inst 3 (tF 31 7 72 0 3 6))::(75,.inst 3 (tF 34 21 74 0 3 7)) ::
 (76,.dict (dk .int σ.arrays) σ.arrays)::(77,.list σ.order)::(78,.dict (dk .int σ.wcards) σ.wcards)::(79,.dict (some .str) (wF σ.bits σ.wtop))::[]
@[irreducible] noncomputable def own (σ:St):List (Nat×AO):=zoS σ++σ.dyn
noncomputable def zc9:List Nat:=[1,2,3,4,5,11,12,13,14,17,18,21,22,24,25,26,27,36,40,53,60,61,63,65,67,69,71,73,75,76,77,78,79]
@[irreducible] noncomputable def Rd (σ:St) (r:Nat) (o:AO):Prop:=zc r (own σ)=some o
noncomputable def Rep (σ:St) (H:AH):Prop:=80≤H.length∧∀ r o,Rd σ r o→H[r]?=some o
@[irreducible] noncomputable def Dy (σ:St) (r:Nat) (o:AO):Prop:=80≤r∧zc r σ.dyn=some o
theorem W7 {α:Type} {r:Nat} {p l:List (Nat×α)}:zc r (p++l)=(zc r p).or (zc r l):=by
 induction p with
 | nil=>show zc r l=_; cases zc r l <;> rfl
 | cons x p ih =>
  rw [List.cons_append,jo,jo]
  cases Nat.beq x.1 r
  ·exact ih
  ·rfl
theorem zbc {α:Type} {r:Nat} {p l:List (Nat×α)} (h:∀ x∈p,x.1 < 80) (hr:80≤r):zc r (p++l)=zc r l:=by
 induction p with
 | nil=>rfl
 | cons x p ih =>
  have:=h x (by simp)
  rw [List.cons_append,jo,show Nat.beq x.1 r=false from Zv fun y=>absurd (y ▸ this) (Nat.not_lt.mpr hr)]
  exact ih fun x hx=>h x (by simp [hx])
theorem zdD {α:Type} {r:Nat} {o:α} {p l:List (Nat×α)} (h:∀ x∈p,x.1 < 80) (hr:80≤r):zf r o (p++l)=p++zf r o l:=by
 induction p with
 | nil=>rfl
 | cons x p ih =>
  have:=h x (by simp)
  rw [List.cons_append,zhf,show Nat.beq x.1 r=false from Zv fun y=>absurd (y ▸ this) (Nat.not_lt.mpr hr)]
  dsimp only
  rw [ih fun x hx=>h x (by simp [hx])]; rfl
theorem q7 (σ:St):∃ p:List (Nat×AO),(∀ x∈p,x.1 < 80)∧∀ d,own { σ with dyn:=d }=p++d:=by
 refine ⟨(own σ).take 33,?_,fun d=>?_⟩
 ·have:((own σ).take 33).map (·.1)=zc9:=by unfold own; rfl
  intro x hx
  have hm:x.1∈zc9:=this ▸ List.mem_map_of_mem hx
  revert hm; generalize x.1=i; revert i; decide
 ·unfold own; rfl
theorem WY {σ:St} {r:Nat} (h:80≤r):zc r (own σ)=zc r σ.dyn:=by
 obtain ⟨p,hp,e⟩:=q7 σ
 have:=e σ.dyn
 rw [show own σ=p++σ.dyn from this,zbc hp h]
theorem yU {σ:St} {r:Nat} {o:AO} (h:80≤r):zf r o (own σ)=own { σ with dyn:=zf r o σ.dyn }:=by
 obtain ⟨p,hp,e⟩:=q7 σ
 rw [show own σ=p++σ.dyn from e σ.dyn,zdD hp h,e]
theorem Rd.inj {σ:St} {r:Nat} {o o':AO} (a:Rd σ r o) (b:Rd σ r o'):o=o':=by
 unfold Rd at a b; rw [a] at b; cases b; rfl
theorem Dy.rd {σ:St} {r:Nat} {o:AO} (h:Dy σ r o):Rd σ r o:=by unfold Rd; unfold Dy at h; rw [WY h.1]; exact h.2
theorem Dy.of {σ σ':St} {r:Nat} {o:AO} (h:Dy σ r o) (e:σ'.dyn=σ.dyn):Dy σ' r o:=by unfold Dy at h ⊢; rw [e]; exact h
theorem Dy.ge {σ:St} {r:Nat} {o:AO} (h:Dy σ r o):80≤r:=by unfold Dy at h; exact h.1
theorem Rep.grow {σ:St} {H E:AH} (h:Rep σ H):Rep σ (H++E):=⟨by rw [List.length_append]; have:=h.1; lia,fun r o e=>zfw (h.2 r o e)⟩
theorem Rep.set {σ σ':St} {H:AH} {r:Nat} {o x:AO} (h:Rep σ H) (hr:Rd σ r x) (e:own σ'=zf r o (own σ)):Rep σ' (H.set r o):=by
 refine ⟨by rw [List.length_set]; exact h.1,fun i y hy=>?_⟩
 unfold Rd at hy
 rw [e,zr] at hy
 split at hy
 ·rename_i q; subst q; cases hy; exact zpt (h.2 _ _ hr)
 ·rename_i q; exact zni (fun z=>q z.symm) (h.2 _ _ (by unfold Rd; exact hy))
theorem Rep.make {σ:St} {H:AH} {o:AO} (h:Rep σ H):Rep { σ with dyn:=zf H.length o σ.dyn } (H++[o]):=by
 refine ⟨by rw [List.length_append]; have:=h.1; lia,fun i y hy=>?_⟩
 unfold Rd at hy
 rw [← yU h.1,zr] at hy
 split at hy
 ·rename_i q; subst q; cases hy; exact zlP
 ·exact zfw (h.2 _ _ (by unfold Rd; exact hy))
theorem Rep.none {σ:St} {H:AH} (h:Rep σ H):zc H.length σ.dyn=none:=by
 cases e:zc H.length σ.dyn with
 | none=>rfl
 | some o =>
  have:=h.2 H.length o (by unfold Rd; rw [WY h.1]; exact e)
  rw [List.getElem?_eq_none (Nat.le_refl _)] at this; cases this
theorem Rep.less {σ σ':St} {H:AH} (h:Rep σ H) (le:∀ r o,Rd σ' r o→Rd σ r o):Rep σ' H:=⟨h.1,fun r o e=>h.2 r o (le r o e)⟩
theorem Rep.dyn {σ:St} {d:List (Nat×AO)} {H:AH} (h:Rep σ H) (le:∀ r o,zc r d=some o→zc r σ.dyn=some o):Rep { σ with dyn:=d } H:=by
 refine h.less fun r o e=>?_
 obtain ⟨p,hp,e1⟩:=q7 σ
 have e2:own σ=p++σ.dyn:=e1 σ.dyn
 unfold Rd at e ⊢
 rw [e1 d,W7] at e
 rw [e2,W7]
 cases q:zc r p with
 | some y=>rw [q] at e; exact e
 | none=>rw [q] at e; exact le r o e
noncomputable def Lf {α:Type} (Q:α→St→Prop):α→AH→Prop:=fun v H=>∃ σ,Rep σ H∧Q v σ
theorem Lf.go {α:Type} {Q:α→St→Prop} {v:α} {H:AH} {P:Prop} (h:Lf Q v H) (nx:∀ σ,Rep σ H→Q v σ→P):P:=by
 obtain ⟨σ,a,b⟩:=h; exact nx σ a b
@[irreducible] noncomputable def WE (scr:List Int) (C:zi) (e:X) (ρ:Loc) (σ:St) (Q:AV→St→Prop):Prop:=∀ H,Rep σ H→We scr C e ρ H (Lf Q)
@[irreducible] noncomputable def WL (scr:List Int) (C:zi) (e:List X) (ρ:Loc) (σ:St) (Q:List AV→St→Prop):Prop:=∀ H,Rep σ H→Wl scr C e ρ H (Lf Q)
@[irreducible] noncomputable def WT (scr:List Int) (C:zi) (e:X) (ρ:Loc) (σ:St) (Q:Bool→St→Prop):Prop:=∀ H,Rep σ H→Wt scr C e ρ H (Lf Q)
@[irreducible] noncomputable def WS (scr:List Int) (C:zi) (e:List S) (ρ:Loc) (σ:St) (Q:Fl→Loc→St→Prop):Prop:=∀ H,Rep σ H→Ws scr C e ρ H fun fl ρ=>Lf (fun (_:Unit)=>Q fl ρ) ()
@[irreducible] noncomputable def WC (C:zi) (f:Nat) (vs:List AV) (σ:St) (Q:AV→St→Prop):Prop:=∀ H,Rep σ H→Wc C f vs H (Lf Q)
@[irreducible] noncomputable def WB (op:Operator) (a b:AV) (σ:St) (Q:AV→St→Prop):Prop:=∀ H,Rep σ H→Wb op a b H (Lf Q)
@[irreducible] noncomputable def WQ (op:CmpOp) (a b:AV) (σ:St) (Q:Bool→St→Prop):Prop:=∀ H,Rep σ H→Wq op a b H (Lf Q)
@[irreducible] noncomputable def RA (σ:St) (x:AV) (n:Nat) (P:AV→Prop):Prop:=∀ H,Rep σ H→Wo (yI H x n) P
@[irreducible] noncomputable def RI (scr:List Int) (σ:St) (x k:AV) (P:AV→Prop):Prop:=∀ H,Rep σ H→Wo (index scr H x k) P
@[irreducible] noncomputable def RG (σ:St) (x k:AV) (P:Option AV→Prop):Prop:=∀ H,Rep σ H→Wo (lookIn H x k) P
@[irreducible] noncomputable def isD (σ:St) (x:AV):Prop:=∀ H,Rep σ H→Ke H x=true
@[irreducible] noncomputable def SA (σ:St) (x:AV) (n:Nat) (v:AV) (P:St→Prop):Prop:=∀ H,Rep σ H→Wo (yv H x n v) fun H'=>∃ σ',Rep σ' H'∧P σ'
@[irreducible] noncomputable def SI (σ:St) (x k v:AV) (P:St→Prop):Prop:=∀ H,Rep σ H→Wo (yT H x k v) fun H'=>∃ σ',Rep σ' H'∧P σ'
@[irreducible] noncomputable def LN (scr:List Int) (σ:St) (x:AV) (P:Nat→Prop):Prop:=(∃ xs,x=.tup xs∧xs.length≤big∧P xs.length)∨(∃ r xs,x=.obj r∧Rd σ r (.list xs)∧xs.length≤big∧P xs.length)∨(x=.cst 3∧scr.length≤big∧P scr.length)
@[irreducible] noncomputable def PU (σ:St) (r:Nat) (ys:List AV) (P:St→Prop):Prop:=∀ H,Rep σ H→∃ σ',Rep σ' (H.set r (.list ys))∧P σ'
@[irreducible] noncomputable def NW (σ:St) (o:AO) (P:Nat→St→Prop):Prop:=∀ r,80≤r→zc r σ.dyn=none→P r { σ with dyn:=zf r o σ.dyn }
theorem We.mono {scr C e ρ H} {Q Q':AV→AH→Prop} (h:We scr C e ρ H Q) (m:∀ v H,Q v H→Q' v H):We scr C e ρ H Q':=by
 obtain ⟨v,H',a,b⟩:=h; exact ⟨v,H',a,m _ _ b⟩
theorem Wl.mono {scr C e ρ H} {Q Q':List AV→AH→Prop} (h:Wl scr C e ρ H Q) (m:∀ v H,Q v H→Q' v H):Wl scr C e ρ H Q':=by
 obtain ⟨v,H',a,b⟩:=h; exact ⟨v,H',a,m _ _ b⟩
theorem Wt.mono {scr C e ρ H} {Q Q':Bool→AH→Prop} (h:Wt scr C e ρ H Q) (m:∀ v H,Q v H→Q' v H):Wt scr C e ρ H Q':=by
 obtain ⟨v,H',a,b⟩:=h; exact ⟨v,H',a,m _ _ b⟩
theorem Ws.mono {scr C e ρ H} {Q Q':Fl→Loc→AH→Prop} (h:Ws scr C e ρ H Q) (m:∀ v ρ H,Q v ρ H→Q' v ρ H):Ws scr C e ρ H Q':=by
 obtain ⟨v,ρ',H',a,b⟩:=h; exact ⟨v,ρ',H',a,m _ _ _ b⟩
theorem Wc.mono {C f vs H} {Q Q':AV→AH→Prop} (h:Wc C f vs H Q) (m:∀ v H,Q v H→Q' v H):Wc C f vs H Q':=by
 obtain ⟨v,H',a,b⟩:=h; exact ⟨v,H',a,m _ _ b⟩
theorem Wb.mono {op a b H} {Q Q':AV→AH→Prop} (h:Wb op a b H Q) (m:∀ v H,Q v H→Q' v H):Wb op a b H Q':=by
 obtain ⟨v,H',a,b⟩:=h; exact ⟨v,H',a,m _ _ b⟩
theorem Wq.mono {op a b H} {Q Q':Bool→AH→Prop} (h:Wq op a b H Q) (m:∀ v H,Q v H→Q' v H):Wq op a b H Q':=by
 obtain ⟨v,a,b⟩:=h; exact ⟨v,a,m _ _ b⟩
theorem Wo.mono {α:Type} {o:Option α} {Q Q':α→Prop} (h:Wo o Q) (m:∀ v,Q v→Q' v):Wo o Q':=by
 obtain ⟨v,a,b⟩:=h; exact ⟨v,a,m _ b⟩
theorem WE.mk {scr C e ρ σ Q} (h:∀ H,Rep σ H→We scr C e ρ H (Lf Q)):WE scr C e ρ σ Q:=by unfold WE; exact h
theorem WE.go {scr C e ρ σ Q} (h:WE scr C e ρ σ Q):∀ H,Rep σ H→We scr C e ρ H (Lf Q):=by unfold WE at h; exact h
theorem WL.mk {scr C e ρ σ Q} (h:∀ H,Rep σ H→Wl scr C e ρ H (Lf Q)):WL scr C e ρ σ Q:=by unfold WL; exact h
theorem WL.go {scr C e ρ σ Q} (h:WL scr C e ρ σ Q):∀ H,Rep σ H→Wl scr C e ρ H (Lf Q):=by unfold WL at h; exact h
theorem WT.mk {scr C e ρ σ Q} (h:∀ H,Rep σ H→Wt scr C e ρ H (Lf Q)):WT scr C e ρ σ Q:=by unfold WT; exact h
theorem WT.go {scr C e ρ σ Q} (h:WT scr C e ρ σ Q):∀ H,Rep σ H→Wt scr C e ρ H (Lf Q):=by unfold WT at h; exact h
theorem WS.mk {scr C e ρ σ Q} (h:∀ H,Rep σ H→Ws scr C e ρ H fun fl ρ=>Lf (fun (_:Unit)=>Q fl ρ) ()):WS scr C e ρ σ Q:=by unfold WS; exact h
theorem WS.go {scr C e ρ σ Q} (h:WS scr C e ρ σ Q):∀ H,Rep σ H→Ws scr C e ρ H fun fl ρ=>Lf (fun (_:Unit)=>Q fl ρ) ():=by unfold WS at h; exact h
theorem WC.mk {C f vs σ Q} (h:∀ H,Rep σ H→Wc C f vs H (Lf Q)):WC C f vs σ Q:=by unfold WC; exact h
theorem WC.go {C f vs σ Q} (h:WC C f vs σ Q):∀ H,Rep σ H→Wc C f vs H (Lf Q):=by unfold WC at h; exact h
theorem WB.mk {op a b σ Q} (h:∀ H,Rep σ H→Wb op a b H (Lf Q)):WB op a b σ Q:=by unfold WB; exact h
theorem WB.go {op a b σ Q} (h:WB op a b σ Q):∀ H,Rep σ H→Wb op a b H (Lf Q):=by unfold WB at h; exact h
theorem WQ.mk {op a b σ Q} (h:∀ H,Rep σ H→Wq op a b H (Lf Q)):WQ op a b σ Q:=by unfold WQ; exact h
theorem WQ.go {op a b σ Q} (h:WQ op a b σ Q):∀ H,Rep σ H→Wq op a b H (Lf Q):=by unfold WQ at h; exact h
theorem RA.mk {σ x n P} (h:∀ H,Rep σ H→Wo (yI H x n) P):RA σ x n P:=by unfold RA; exact h
theorem RA.go {σ x n P} (h:RA σ x n P):∀ H,Rep σ H→Wo (yI H x n) P:=by unfold RA at h; exact h
theorem RI.mk {scr σ x k P} (h:∀ H,Rep σ H→Wo (index scr H x k) P):RI scr σ x k P:=by unfold RI; exact h
theorem RI.go {scr σ x k P} (h:RI scr σ x k P):∀ H,Rep σ H→Wo (index scr H x k) P:=by unfold RI at h; exact h
theorem RG.mk {σ x k P} (h:∀ H,Rep σ H→Wo (lookIn H x k) P):RG σ x k P:=by unfold RG; exact h
theorem RG.go {σ x k P} (h:RG σ x k P):∀ H,Rep σ H→Wo (lookIn H x k) P:=by unfold RG at h; exact h
theorem isD.mk {σ x} (h:∀ H,Rep σ H→Ke H x=true):isD σ x:=by unfold isD; exact h
theorem isD.go {σ x} (h:isD σ x):∀ H,Rep σ H→Ke H x=true:=by unfold isD at h; exact h
theorem SA.mk {σ x n v P} (h:∀ H,Rep σ H→Wo (yv H x n v) fun H'=>∃ σ',Rep σ' H'∧P σ'):SA σ x n v P:=by unfold SA; exact h
theorem SA.go {σ x n v P} (h:SA σ x n v P):∀ H,Rep σ H→Wo (yv H x n v) fun H'=>∃ σ',Rep σ' H'∧P σ':=by unfold SA at h; exact h
theorem SI.mk {σ x k v P} (h:∀ H,Rep σ H→Wo (yT H x k v) fun H'=>∃ σ',Rep σ' H'∧P σ'):SI σ x k v P:=by unfold SI; exact h
theorem SI.go {σ x k v P} (h:SI σ x k v P):∀ H,Rep σ H→Wo (yT H x k v) fun H'=>∃ σ',Rep σ' H'∧P σ':=by unfold SI at h; exact h
theorem PU.mk {σ r ys P} (h:∀ H,Rep σ H→∃ σ',Rep σ' (H.set r (.list ys))∧P σ'):PU σ r ys P:=by unfold PU; exact h
theorem PU.go {σ r ys P} (h:PU σ r ys P):∀ H,Rep σ H→∃ σ',Rep σ' (H.set r (.list ys))∧P σ':=by unfold PU at h; exact h
theorem NW.mk {σ o P} (h:∀ r,80≤r→zc r σ.dyn=none→P r { σ with dyn:=zf r o σ.dyn }):NW σ o P:=by unfold NW; exact h
theorem NW.go {σ o P} (h:NW σ o P):∀ r,80≤r→zc r σ.dyn=none→P r { σ with dyn:=zf r o σ.dyn }:=by unfold NW at h; exact h
theorem LN.mk {scr σ x P} (h:(∃ xs,x=.tup xs∧xs.length≤big∧P xs.length)∨(∃ r xs,x=.obj r∧Rd σ r (.list xs)∧xs.length≤big∧P xs.length)∨(x=.cst 3∧scr.length≤big∧P scr.length)):LN scr σ x P:=by unfold LN; exact h
theorem LN.go {scr σ x P} (h:LN scr σ x P):(∃ xs,x=.tup xs∧xs.length≤big∧P xs.length)∨(∃ r xs,x=.obj r∧Rd σ r (.list xs)∧xs.length≤big∧P xs.length)∨(x=.cst 3∧scr.length≤big∧P scr.length):=by unfold LN at h; exact h
theorem WC.mono {C f vs σ} {Q Q':AV→St→Prop} (h:WC C f vs σ Q) (m:∀ v σ,Q v σ→Q' v σ):WC C f vs σ Q' :=
 .mk fun H r=>(h.go H r).mono fun v H' z1c=>by obtain ⟨σ',a,b⟩:=z1c; exact ⟨σ',a,m _ _ b⟩
theorem WE.mono {scr C e ρ σ} {Q Q':AV→St→Prop} (h:WE scr C e ρ σ Q) (m:∀ v σ,Q v σ→Q' v σ):WE scr C e ρ σ Q' :=
 .mk fun H r=>(h.go H r).mono fun v H' z2c=>by obtain ⟨σ',a,b⟩:=z2c; exact ⟨σ',a,m _ _ b⟩
theorem WS.mono {scr C e ρ σ} {Q Q':Fl→Loc→St→Prop} (h:WS scr C e ρ σ Q) (m:∀ v ρ σ,Q v ρ σ→Q' v ρ σ):WS scr C e ρ σ Q' :=
 .mk fun H r=>(h.go H r).mono fun v _ H' z3d=>by obtain ⟨σ',a,b⟩:=z3d; exact ⟨σ',a,m _ _ _ b⟩
section
variable {scr:List Int} {C:zi} {ρ:Loc} {σ:St} {Q:AV→St→Prop}
theorem zk3 (q:Q .none σ):WE scr C .none ρ σ Q:=.mk fun _ h=>zna ⟨σ,h,q⟩
theorem zmc {b:Bool} (q:Q (.bool b) σ):WE scr C (.bool b) ρ σ Q:=.mk fun _ h=>znc ⟨σ,h,q⟩
theorem zaB {i:Int} (q:Q (.int i) σ):WE scr C (.int i) ρ σ Q:=.mk fun _ h=>zcY ⟨σ,h,q⟩
theorem zof {s:List Nat} (q:Q (.str s) σ):WE scr C (.str s) ρ σ Q:=.mk fun _ h=>znh ⟨σ,h,q⟩
theorem VM {i:Nat} {v:AV} (e:zc i ρ=some v) (q:Q v σ):WE scr C (.loc i) ρ σ Q:=.mk fun _ h=>zcV e ⟨σ,h,q⟩
theorem zoy {i:Nat} {v:AV} (e:KS i=some v) (q:Q v σ):WE scr C (.glb i) ρ σ Q:=.mk fun _ h=>zpB e ⟨σ,h,q⟩
theorem znw {op:Operator} {a b:X} (q:WE scr C a ρ σ fun x σ1=>WE scr C b ρ σ1 fun y σ2=>WB op x y σ2 Q):WE scr C (.bin op a b) ρ σ Q :=
 .mk fun H h=>znd ((q.go H h).mono fun _ H1 l=>Lf.go l fun _ h1 q1=>(q1.go H1 h1).mono fun _ H2 l=>Lf.go l fun _ h2 q2=>q2.go H2 h2)
theorem zjI {a:X} (q:WE scr C a ρ σ fun x σ1=>∃ i,x=.int i∧Q (.int (-i)) σ1):WE scr C (.neg a) ρ σ Q :=
 .mk fun H h=>zot ((q.go H h).mono fun _ _ z4c=>by obtain ⟨σ1,h1,i,e,q1⟩:=z4c; exact ⟨i,e,σ1,h1,q1⟩)
theorem zmU {a:X} (q:WE scr C a ρ σ fun x σ1=>Wo (truth x) fun b=>Q (.bool (!b)) σ1):WE scr C (.bnot a) ρ σ Q :=
 .mk fun H h=>zlp ((q.go H h).mono fun _ _ l=>Lf.go l fun σ1 h1 q1=>q1.mono fun _ q=>⟨σ1,h1,q⟩)
theorem zoL {a b:X} {op:CmpOp} (q:WE scr C a ρ σ fun x σ1=>WE scr C b ρ σ1 fun y σ2=>WQ op x y σ2 fun c σ3=>Q (.bool c) σ3):WE scr C (.cmp a [op] [b]) ρ σ Q :=
 .mk fun H h=>zpv ((q.go H h).mono fun _ H1 l=>Lf.go l fun _ h1 q1=>(q1.go H1 h1).mono fun _ H2 l=>Lf.go l fun _ h2 q2=>q2.go H2 h2)
theorem zgX {f:Nat} {args:List X} (q:WL scr C args ρ σ fun vs σ1=>WC C f vs σ1 Q):WE scr C (.call f args) ρ σ Q :=
 .mk fun H h=>zez ((q.go H h).mono fun _ H1 l=>Lf.go l fun _ h1 q1=>q1.go H1 h1)
theorem zlz {o:X} {n:Nat} (q:WE scr C o ρ σ fun x σ1=>RA σ1 x n fun v=>Q v σ1):WE scr C (.attr o n) ρ σ Q :=
 .mk fun H h=>zmi ((q.go H h).mono fun _ H1 l=>Lf.go l fun σ1 h1 q1=>(q1.go H1 h1).mono fun _ q=>⟨σ1,h1,q⟩)
theorem zpo {o i:X} (q:WE scr C o ρ σ fun x σ1=>WE scr C i ρ σ1 fun y σ2=>RI scr σ2 x y fun v=>Q v σ2):WE scr C (.idx o i) ρ σ Q :=
 .mk fun H h=>zjz ((q.go H h).mono fun _ H1 l=>Lf.go l fun _ h1 q1=>(q1.go H1 h1).mono fun _ H2 l=>Lf.go l fun σ2 h2 q2=>(q2.go H2 h2).mono fun _ q=>⟨σ2,h2,q⟩)
theorem zl5 {o k:X} (q:WE scr C o ρ σ fun x σ1=>isD σ1 x∧WE scr C k ρ σ1 fun y σ2=>RG σ2 x y fun r=>Q (r.getD .none) σ2):WE scr C (.get1 o k) ρ σ Q :=
 .mk fun H h=>zk9 ((q.go H h).mono fun _ H1 z5c=>by obtain ⟨_,h1,d1,q1⟩:=z5c; exact ⟨d1.go H1 h1,(q1.go H1 h1).mono fun _ H2 l=>Lf.go l fun σ2 h2 q2=>(q2.go H2 h2).mono fun _ q=>⟨σ2,h2,q⟩⟩)
theorem zka {o k e:X} (q:WE scr C o ρ σ fun x σ1=>isD σ1 x∧WE scr C k ρ σ1 fun y σ2=>WE scr C e ρ σ2 fun z σ3=>RG σ3 x y fun r=>Q (r.getD z) σ3):WE scr C (.get2 o k e) ρ σ Q :=
 .mk fun H h=>zlT ((q.go H h).mono fun _ H1 z6c=>by obtain ⟨_,h1,d1,q1⟩:=z6c; exact ⟨d1.go H1 h1,(q1.go H1 h1).mono fun _ H2 l=>Lf.go l fun _ h2 q2=>(q2.go H2 h2).mono fun _ H3 l=>Lf.go l fun σ3 h3 q3=>(q3.go H3 h3).mono fun _ q=>⟨σ3,h3,q⟩⟩)
theorem zpM {es:List X} (q:WL scr C es ρ σ fun vs σ1=>Q (.tup vs) σ1):WE scr C (.tup es) ρ σ Q :=
 .mk fun H h=>zn4 ((q.go H h).mono fun _ _ q1=>q1)
theorem znX {es:List X} (q:WL scr C es ρ σ fun vs σ1=>NW σ1 (.list vs) fun r σ2=>Q (.obj r) σ2):WE scr C (.lst es) ρ σ Q :=
 .mk fun H h=>zn7 ((q.go H h).mono fun _ _ l=>Lf.go l fun _ h1 q1=>⟨_,h1.make,q1.go _ h1.1 h1.none⟩)
theorem znu {es:List X} (q:WL scr C es ρ σ fun vs σ1=>Wo (YV vs none []) fun o=>NW σ1 o fun r σ2=>Q (.obj r) σ2):WE scr C (.dic es) ρ σ Q :=
 .mk fun H h=>zpq ((q.go H h).mono fun _ _ l=>Lf.go l fun _ h1 q1=>q1.mono fun _ q1=>⟨_,h1.make,q1.go _ h1.1 h1.none⟩)
theorem zob {e:X} (q:WE scr C e ρ σ fun x σ1=>LN scr σ1 x fun n=>Q (.int n) σ1):WE scr C (.len e) ρ σ Q:=by
 refine .mk fun H h=>?_
 obtain ⟨x,H1,hx,σ1,h1,q1⟩:=q.go H h
 rcases q1.go with ⟨xs,rfl,hb,q⟩ | ⟨r,xs,rfl,hr,hb,q⟩ | ⟨rfl,hb,q⟩
 ·exact zlC ⟨_,H1,hx,xs,rfl,hb,σ1,h1,q⟩
 ·exact zmV ⟨_,H1,hx,r,rfl,xs,h1.2 _ _ hr,hb,σ1,h1,q⟩
 ·exact zgM hb ⟨_,H1,hx,rfl,σ1,h1,q⟩
theorem zoA {e:X} (q:WE scr C e ρ σ fun x σ1=>∃ i,x=.int i∧Q (.bool false) σ1):WE scr C (.isB e) ρ σ Q :=
 .mk fun H h=>zpu ((q.go H h).mono fun _ _ z7c=>by obtain ⟨σ1,h1,i,e,q1⟩:=z7c; exact ⟨i,e,σ1,h1,q1⟩)
theorem znY {a b:X} (q:WE scr C a ρ σ fun x σ1=>WE scr C b ρ σ1 fun y σ2=>∃ i j,x=.int i∧y=.int j∧Q (.int (if i < j then j else i)) σ2):WE scr C (.max2 a b) ρ σ Q :=
 .mk fun H h=>zoN ((q.go H h).mono fun _ H1 l=>Lf.go l fun _ h1 q1=>(q1.go H1 h1).mono fun _ _ z8c=>by obtain ⟨σ2,h2,i,j,a,b,q⟩:=z8c; exact ⟨i,j,a,b,σ2,h2,q⟩)
theorem zpd {a b:X} (q:WE scr C a ρ σ fun x σ1=>WE scr C b ρ σ1 fun y σ2=>∃ i j,x=.int i∧y=.int j∧Q (.int (if j < i then j else i)) σ2):WE scr C (.min2 a b) ρ σ Q :=
 .mk fun H h=>znS ((q.go H h).mono fun _ H1 l=>Lf.go l fun _ h1 q1=>(q1.go H1 h1).mono fun _ _ z9c=>by obtain ⟨σ2,h2,i,j,a,b,q⟩:=z9c; exact ⟨i,j,a,b,σ2,h2,q⟩)
theorem zgE {Q:List AV→St→Prop} (q:Q [] σ):WL scr C [] ρ σ Q:=.mk fun _ h=>zjO ⟨σ,h,q⟩
theorem ZC {e:X} {es:List X} {Q:List AV→St→Prop} (q:WE scr C e ρ σ fun v σ1=>WL scr C es ρ σ1 fun vs σ2=>Q (v::vs) σ2):WL scr C (e::es) ρ σ Q :=
 .mk fun H h=>zfG ((q.go H h).mono fun _ H1 l=>Lf.go l fun _ h1 q1=>(q1.go H1 h1).mono fun _ _ q=>q)
theorem zfr {o:X} {n:Nat} {args:List X} (q:WE scr C o ρ σ fun x σ1=>∃ r c fs f,x=.obj r∧Rd σ1 r (.inst c fs)∧JW c n=some f∧zc n fs=none ∧
  WL scr C args ρ σ1 fun vs σ2=>WC C f (.obj r::vs) σ2 Q):WE scr C (.meth o n args) ρ σ Q :=
 .mk fun H h=>zlJ ((q.go H h).mono fun _ H1 z0c=>by obtain ⟨_,h1,r,c,fs,f,e,hr,hm,hn,q1⟩:=z0c; exact ⟨r,e,c,fs,f,h1.2 _ _ hr,hm,hn,(q1.go H1 h1).mono fun _ H2 l=>Lf.go l fun _ h2 q2=>q2.go H2 h2⟩)
theorem zfJ {o e:X} (q:WE scr C o ρ σ fun x σ1=>∃ r xs,x=.obj r∧Rd σ1 r (.list xs)∧WE scr C e ρ σ1 fun y σ2=>∃ ys,Rd σ2 r (.list ys)∧ys.length < big∧PU σ2 r (ys++[y]) fun σ3=>Q .none σ3) :
  WE scr C (.append o e) ρ σ Q :=
 .mk fun H h=>ze9 ((q.go H h).mono fun _ H1 z1c=>by obtain ⟨_,h1,r,xs,e,hr,q1⟩:=z1c; exact ⟨r,e,xs,h1.2 _ _ hr,(q1.go H1 h1).mono fun _ H2 z1c=>by obtain ⟨_,h2,ys,hy,hb,q2⟩:=z1c; exact ⟨ys,h2.2 _ _ hy,hb,q2.go H2 h2⟩⟩)
theorem znE {o:X} (q:WE scr C o ρ σ fun x σ1=>∃ r ys y,x=.obj r∧Rd σ1 r (.list (ys++[y]))∧ys.length < big∧PU σ1 r ys fun σ2=>Q y σ2):WE scr C (.pop o) ρ σ Q :=
 .mk fun H h=>znR ((q.go H h).mono fun _ H1 z2c=>by obtain ⟨_,h1,r,ys,y,e,hr,hb,q1⟩:=z2c; exact ⟨r,e,ys,y,h1.2 _ _ hr,hb,q1.go H1 h1⟩)
theorem zbo {o:X} (q:WE scr C o ρ σ fun x σ1=>∃ r xs,x=.obj r∧Rd σ1 r (.list xs)∧xs.length≤big∧NW σ1 (.list xs) fun r σ2=>Q (.obj r) σ2):WE scr C (.sliceAll o) ρ σ Q :=
 .mk fun H h=>zb0 ((q.go H h).mono fun _ _ z3c=>by obtain ⟨_,h1,r,xs,e,hr,hb,q1⟩:=z3c; exact ⟨r,e,xs,h1.2 _ _ hr,hb,_,h1.make,q1.go _ h1.1 h1.none⟩)
theorem zhY {o:X} (q:WE scr C o ρ σ fun x σ1=>∃ r xs,x=.obj r∧Rd σ1 r (.list xs)∧xs.length≤big∧Q (.tup xs) σ1):WE scr C (.tuple o) ρ σ Q :=
 .mk fun H h=>ziV ((q.go H h).mono fun _ _ z4c=>by obtain ⟨σ1,h1,r,xs,e,hr,hb,q1⟩:=z4c; exact ⟨r,e,xs,h1.2 _ _ hr,hb,σ1,h1,q1⟩)
theorem zek {o:X} {k:Nat} (q:WE scr C o ρ σ fun x σ1=>∃ s,x=.str s∧(1≤k∧s.length≤1000)∧Q (.str (s.take (s.length - k))) σ1):WE scr C (.sliceTo o k) ρ σ Q :=
 .mk fun H h=>zea ((q.go H h).mono fun _ _ z5c=>by obtain ⟨σ1,h1,s,e,hb,q1⟩:=z5c; exact ⟨s,e,hb,σ1,h1,q1⟩)
theorem zaR {o:X} {k:Nat} (q:WE scr C o ρ σ fun x σ1=>∃ s,x=.str s∧(1≤k∧s.length≤1000)∧Q (.str (s.drop (s.length - k))) σ1):WE scr C (.sliceFrom o k) ρ σ Q :=
 .mk fun H h=>xE ((q.go H h).mono fun _ _ z6c=>by obtain ⟨σ1,h1,s,e,hb,q1⟩:=z6c; exact ⟨s,e,hb,σ1,h1,q1⟩)
theorem zfM {c:Nat} (e:yz c=none) (q:NW σ (.inst c []) fun r σ1=>Q (.obj r) σ1):WE scr C (.new c []) ρ σ Q :=
 .mk fun _ h=>zlI e ⟨_,h.make,q.go _ h.1 h.none⟩
theorem znr {c f:Nat} {args:List X} (e:yz c=some f) (q:WL scr C args ρ σ fun vs σ1=>NW σ1 (.inst c []) fun r σ2=>WC C f (.obj r::vs) σ2 fun v σ3=>v=.none∧Q (.obj r) σ3) :
  WE scr C (.new c args) ρ σ Q :=
 .mk fun H h=>znl e ((q.go H h).mono fun _ H1 l=>Lf.go l fun _ h1 q1=>((q1.go _ h1.1 h1.none).go _ h1.make).mono fun _ _ z7c=>by obtain ⟨σ3,h3,e,q⟩:=z7c; exact ⟨e,σ3,h3,q⟩)
theorem zk7 {e:X} (q:WE scr C e ρ σ Q):WE scr C (.band [e]) ρ σ Q:=.mk fun H h=>zlK (q.go H h)
theorem znQ {e e':X} {es:List X} (q:WE scr C e ρ σ fun x σ1=>Wo (truth x) fun b=>Br b (WE scr C (.band (e'::es)) ρ σ1 Q) (Q x σ1)):WE scr C (.band (e::e'::es)) ρ σ Q :=
 .mk fun H h=>zne ((q.go H h).mono fun _ H1 l=>Lf.go l fun σ1 h1 q1=>q1.mono fun _ q=>⟨fun e=>(q.1 e).go H1 h1,fun e=>⟨σ1,h1,q.2 e⟩⟩)
theorem zpC {e:X} (q:WE scr C e ρ σ Q):WE scr C (.bor [e]) ρ σ Q:=.mk fun H h=>zpk (q.go H h)
theorem zqM {e e':X} {es:List X} (q:WE scr C e ρ σ fun x σ1=>Wo (truth x) fun b=>Br b (Q x σ1) (WE scr C (.bor (e'::es)) ρ σ1 Q)):WE scr C (.bor (e::e'::es)) ρ σ Q :=
 .mk fun H h=>zqq ((q.go H h).mono fun _ H1 l=>Lf.go l fun σ1 h1 q1=>q1.mono fun _ q=>⟨fun e=>⟨σ1,h1,q.1 e⟩,fun e=>(q.2 e).go H1 h1⟩)
theorem zkB {a b c:X} {op op':CmpOp} (q:WE scr C a ρ σ fun x σ1=>WE scr C b ρ σ1 fun y σ2=>WQ op x y σ2 fun t σ3=>Br t (WE scr C c ρ σ3 fun z σ4=>WQ op' y z σ4 fun u σ5=>Q (.bool u) σ5) (Q (.bool false) σ3)) :
  WE scr C (.cmp a [op,op'] [b,c]) ρ σ Q :=
 .mk fun H h=>zkQ ((q.go H h).mono fun _ H1 l=>Lf.go l fun _ h1 q1=>(q1.go H1 h1).mono fun _ H2 l=>Lf.go l fun _ h2 q2=>(q2.go H2 h2).mono fun _ H3 l=>Lf.go l fun σ3 h3 q =>
  ⟨fun e=>((q.1 e).go H3 h3).mono fun _ H4 l=>Lf.go l fun _ h4 q4=>q4.go H4 h4,fun e=>⟨σ3,h3,q.2 e⟩⟩)
end
section
variable {scr:List Int} {C:zi} {ρ:Loc} {σ:St} {Q:Bool→St→Prop}
theorem zjy {e:X} (q:WT scr C e ρ σ fun b σ1=>Q (!b) σ1):WT scr C (.bnot e) ρ σ Q:=.mk fun H h=>zoh ((q.go H h).mono fun _ _ q=>q)
theorem zcp {a b:X} {op:CmpOp} (q:WE scr C a ρ σ fun x σ1=>WE scr C b ρ σ1 fun y σ2=>WQ op x y σ2 Q):WT scr C (.cmp a [op] [b]) ρ σ Q :=
 .mk fun H h=>zjR ((q.go H h).mono fun _ H1 l=>Lf.go l fun _ h1 q1=>(q1.go H1 h1).mono fun _ H2 l=>Lf.go l fun _ h2 q2=>q2.go H2 h2)
theorem zlX {a b c:X} {op op':CmpOp} (q:WE scr C a ρ σ fun x σ1=>WE scr C b ρ σ1 fun y σ2=>WQ op x y σ2 fun t σ3=>Br t (WE scr C c ρ σ3 fun z σ4=>WQ op' y z σ4 Q) (Q false σ3)) :
  WT scr C (.cmp a [op,op'] [b,c]) ρ σ Q :=
 .mk fun H h=>zkf ((q.go H h).mono fun _ H1 l=>Lf.go l fun _ h1 q1=>(q1.go H1 h1).mono fun _ H2 l=>Lf.go l fun _ h2 q2=>(q2.go H2 h2).mono fun _ H3 l=>Lf.go l fun σ3 h3 q =>
  ⟨fun e=>((q.1 e).go H3 h3).mono fun _ H4 l=>Lf.go l fun _ h4 q4=>q4.go H4 h4,fun e=>⟨σ3,h3,q.2 e⟩⟩)
theorem ze5 (q:Q true σ):WT scr C (.band []) ρ σ Q:=.mk fun _ h=>zlF ⟨σ,h,q⟩
theorem qg {e:X} {es:List X} (q:WT scr C e ρ σ fun b σ1=>Br b (WT scr C (.band es) ρ σ1 Q) (Q false σ1)):WT scr C (.band (e::es)) ρ σ Q :=
 .mk fun H h=>znC ((q.go H h).mono fun _ H1 l=>Lf.go l fun σ1 h1 q=>⟨fun e=>(q.1 e).go H1 h1,fun e=>⟨σ1,h1,q.2 e⟩⟩)
theorem zo7 (q:Q false σ):WT scr C (.bor []) ρ σ Q:=.mk fun _ h=>znG ⟨σ,h,q⟩
theorem zq3 {e:X} {es:List X} (q:WT scr C e ρ σ fun b σ1=>Br b (Q true σ1) (WT scr C (.bor es) ρ σ1 Q)):WT scr C (.bor (e::es)) ρ σ Q :=
 .mk fun H h=>zp7 ((q.go H h).mono fun _ H1 l=>Lf.go l fun σ1 h1 q=>⟨fun e=>⟨σ1,h1,q.1 e⟩,fun e=>(q.2 e).go H1 h1⟩)
theorem zki {f:Nat} {args:List X} (q:WE scr C (.call f args) ρ σ fun x σ1=>Wo (truth x) fun b=>Q b σ1):WT scr C (.call f args) ρ σ Q :=
 .mk fun H h=>zlV ((q.go H h).mono fun _ _ l=>Lf.go l fun σ1 h1 q=>q.mono fun _ q=>⟨σ1,h1,q⟩)
theorem zgH {i:Nat} (q:WE scr C (.loc i) ρ σ fun x σ1=>Wo (truth x) fun b=>Q b σ1):WT scr C (.loc i) ρ σ Q :=
 .mk fun H h=>zpe ((q.go H h).mono fun _ _ l=>Lf.go l fun σ1 h1 q=>q.mono fun _ q=>⟨σ1,h1,q⟩)
theorem zpH {op:Operator} {a b:X} (q:WE scr C (.bin op a b) ρ σ fun x σ1=>Wo (truth x) fun b=>Q b σ1):WT scr C (.bin op a b) ρ σ Q :=
 .mk fun H h=>zoj ((q.go H h).mono fun _ _ l=>Lf.go l fun σ1 h1 q=>q.mono fun _ q=>⟨σ1,h1,q⟩)
theorem zpz {e:X} (q:WE scr C (.isB e) ρ σ fun x σ1=>Wo (truth x) fun b=>Q b σ1):WT scr C (.isB e) ρ σ Q :=
 .mk fun H h=>zn0 ((q.go H h).mono fun _ _ l=>Lf.go l fun σ1 h1 q=>q.mono fun _ q=>⟨σ1,h1,q⟩)
end
section
variable {scr:List Int} {C:zi} {ρ:Loc} {σ:St} {Q:Fl→Loc→St→Prop} {ss:List S}
theorem Vl (q:Q .next ρ σ):WS scr C [] ρ σ Q:=.mk fun _ h=>zo5 ⟨σ,h,q⟩
theorem znt {t:X} {b o:List S} (q:WT scr C t ρ σ fun c σ1=>Br c (WS scr C (b++ss) ρ σ1 Q) (WS scr C (o++ss) ρ σ1 Q)):WS scr C (.ite t b o::ss) ρ σ Q :=
 .mk fun H h=>zjZ ((q.go H h).mono fun _ H1 l=>Lf.go l fun _ h1 q=>⟨fun e=>(q.1 e).go H1 h1,fun e=>(q.2 e).go H1 h1⟩)
theorem zlH {e:X} (q:WE scr C e ρ σ fun _ σ1=>WS scr C ss ρ σ1 Q):WS scr C (.expr e::ss) ρ σ Q :=
 .mk fun H h=>zlm ((q.go H h).mono fun _ H1 l=>Lf.go l fun _ h1 q=>q.go H1 h1)
theorem zn3 {e:X} (q:WE scr C e ρ σ fun v σ1=>Q (.ret v) ρ σ1):WS scr C (.ret e::ss) ρ σ Q :=
 .mk fun H h=>zo2 ((q.go H h).mono fun _ _ q=>q)
theorem zmh {i:Nat} {e:X} (q:WE scr C e ρ σ fun v σ1=>WS scr C ss (zf i v ρ) σ1 Q):WS scr C (.set (.name i) e::ss) ρ σ Q :=
 .mk fun H h=>jd ((q.go H h).mono fun _ H1 l=>Lf.go l fun _ h1 q=>q.go H1 h1)
theorem zk1 {o e:X} {n:Nat} (q:WE scr C e ρ σ fun v σ1=>WE scr C o ρ σ1 fun x σ2=>SA σ2 x n v fun σ3=>WS scr C ss ρ σ3 Q):WS scr C (.set (.attr o n) e::ss) ρ σ Q :=
 .mk fun H h=>zle ((q.go H h).mono fun _ H1 l=>Lf.go l fun _ h1 q1=>(q1.go H1 h1).mono fun _ H2 l=>Lf.go l fun _ h2 q2=>(q2.go H2 h2).mono fun H3 z8b=>by obtain ⟨_,h3,q3⟩:=z8b; exact q3.go H3 h3)
theorem zpK {o i e:X} (q:WE scr C e ρ σ fun v σ1=>WE scr C o ρ σ1 fun x σ2=>WE scr C i ρ σ2 fun y σ3=>SI σ3 x y v fun σ4=>WS scr C ss ρ σ4 Q):WS scr C (.set (.idx o i) e::ss) ρ σ Q :=
 .mk fun H h=>znx ((q.go H h).mono fun _ H1 l=>Lf.go l fun _ h1 q1=>(q1.go H1 h1).mono fun _ H2 l=>Lf.go l fun _ h2 q2=>(q2.go H2 h2).mono fun _ H3 l=>Lf.go l fun _ h3 q3=>(q3.go H3 h3).mono fun H4 z9b=>by obtain ⟨_,h4,q4⟩:=z9b; exact q4.go H4 h4)
theorem ziG {is:List Nat} {e:X} (q:WE scr C e ρ σ fun v σ1=>∃ vs,v=.tup vs∧Wo (y8 is vs ρ) fun ρ1=>WS scr C ss ρ1 σ1 Q):WS scr C (.set (.names is) e::ss) ρ σ Q :=
 .mk fun H h=>zji ((q.go H h).mono fun _ H1 z0c=>by obtain ⟨_,h1,vs,e,q⟩:=z0c; exact ⟨vs,e,q.mono fun _ q=>q.go H1 h1⟩)
theorem zmx {o e:X} {n:Nat} {op:Operator} (q:WE scr C o ρ σ fun x σ1=>RA σ1 x n fun a=>WE scr C e ρ σ1 fun y σ2=>∃ i j,a=.int i∧y=.int j∧WB op (.int i) (.int j) σ2 fun v σ3=>SA σ3 x n v fun σ4=>WS scr C ss ρ σ4 Q) :
  WS scr C (.augA o n op e::ss) ρ σ Q :=
 .mk fun H h=>zk5 ((q.go H h).mono fun _ H1 l=>Lf.go l fun _ h1 q1=>(q1.go H1 h1).mono fun _ q=>(q.go H1 h1).mono fun _ H2 z1c=>by obtain ⟨_,h2,i,j,a,b,q⟩:=z1c; exact ⟨i,j,a,b,(q.go H2 h2).mono fun _ H3 l=>Lf.go l fun _ h3 q3=>(q3.go H3 h3).mono fun H4 z1b=>by obtain ⟨_,h4,q4⟩:=z1b; exact q4.go H4 h4⟩)
theorem ze1 {i:Nat} {e:X} {op:Operator} {a:AV} (ha:zc i ρ=some a) (q:WE scr C e ρ σ fun y σ2=>∃ k j,a=.int k∧y=.int j∧WB op (.int k) (.int j) σ2 fun v σ3=>WS scr C ss (zf i v ρ) σ3 Q) :
  WS scr C (.augN i op e::ss) ρ σ Q :=
 .mk fun H h=>zld (.of ha ((q.go H h).mono fun _ H2 z2c=>by obtain ⟨_,h2,i,j,a,b,q⟩:=z2c; exact ⟨i,j,a,b,(q.go H2 h2).mono fun _ H3 l=>Lf.go l fun _ h3 q3=>q3.go H3 h3⟩))
theorem znJ {o:X} (q:WE scr C o ρ σ fun x σ1=>∃ r xs,x=.obj r∧Rd σ1 r (.list xs)∧xs.length≤big∧PU σ1 r [] fun σ2=>WS scr C ss ρ σ2 Q):WS scr C (.delAll o::ss) ρ σ Q :=
 .mk fun H h=>zon ((q.go H h).mono fun _ H1 z3c=>by obtain ⟨_,h1,r,xs,e,hr,hb,q⟩:=z3c; exact ⟨r,e,xs,h1.2 _ _ hr,hb,by obtain ⟨σ2,h2,q2⟩:=q.go H1 h1; exact q2.go _ h2⟩)
end
@[irreducible] noncomputable def Dl (d:List (Nat×AO)) (r:Nat) (o:AO):Prop:=80≤r∧zc r d=some o
theorem Dl.ge {d r o} (h:Dl d r o):80≤r:=by unfold Dl at h; exact h.1
theorem Dl.at {d r o} (h:Dl d r o):zc r d=some o:=by unfold Dl at h; exact h.2
theorem Dl.mk {d r o} (a:80≤r) (b:zc r d=some o):Dl d r o:=by unfold Dl; exact ⟨a,b⟩
theorem zhi {d r o} (a:80≤r):Dl (zf r o d) r o:=.mk a (by rw [zr,if_pos rfl])
theorem yy {d r o} (a:80≤r):Dl (zf r o d) r o:=.mk a (by rw [zr,if_pos rfl])
theorem zo {d r o q x} (n:r≠q) (h:Dl d r o):Dl (zf q x d) r o:=.mk h.ge (by rw [zr,if_neg (Ne.symm n)]; exact h.at)
theorem YU {d r o q x} (n:zc q d=none) (h:Dl d r o):Dl (zf q x d) r o:=zo (by rintro rfl; rw [h.at] at n; cases n) h
theorem zu {σ:St} {r:Nat} {o:AO} (h:Dl σ.dyn r o):Rd σ r o:=by unfold Rd; rw [WY h.ge]; exact h.at
theorem Rep.drop {σ:St} {r:Nat} {o:AO} {d:List (Nat×AO)} {H:AH} (h:Rep { σ with dyn:=zf r o d } H) (n:zc r d=Option.none):Rep { σ with dyn:=d } H :=
 Rep.dyn (σ:={ σ with dyn:=zf r o d }) h fun i y e=>by
  rw [zr,if_neg (by rintro rfl; rw [n] at e; cases e)]; exact e
theorem WC.less {C f vs} {σ:St} {d:List (Nat×AO)} {Q:AV→St→Prop} (h:WC C f vs { σ with dyn:=d } Q) (le:∀ r o,zc r d=some o→zc r σ.dyn=some o):WC C f vs σ Q :=
 .mk fun H r=>h.go H (r.dyn le)
section
variable {σ:St}
theorem zry:Rd σ 1 (.inst 2 [(2,.obj 2),(3,.obj 3),(4,.obj 4),(5,.obj 5)]):=by unfold Rd own; rfl
theorem zqt:Rd σ 2 (.list σ.rows):=by unfold Rd own; rfl
theorem zgD:Rd σ 3 (.dict (some .tup) σ.index):=by unfold Rd own; rfl
theorem zq5:Rd σ 4 (.list σ.depths):=by unfold Rd own; rfl
theorem zq9:Rd σ 5 (.list σ.opens):=by unfold Rd own; rfl
theorem zgC:Rd σ 11 (.inst 4 (hF σ.top σ.fresh σ.made σ.bits)):=by unfold Rd own; rfl
theorem zoU:Rd σ 12 (.list σ.things):=by unfold Rd own; rfl
theorem Zo:Rd σ 13 (.dict (some .int) σ.at_):=by unfold Rd own; rfl
theorem zjD:Rd σ 14 (.dict (dk .int σ.cards) σ.cards):=by unfold Rd own; rfl
theorem znk:Rd σ 17 (.inst 11 (mF σ.state)):=by unfold Rd own; rfl
theorem zjP:Rd σ 18 (.dict (dk .tup σ.kin) σ.kin):=by unfold Rd own; rfl
theorem zpQ:Rd σ 21 (.dict (some .int) zdn):=by unfold Rd own; rfl
theorem znm:Rd σ 22 (.dict (some .int) [(.int 21,.int 5)]):=by unfold Rd own; rfl
theorem zrj:Rd σ 24 (.list [.obj 53]):=by unfold Rd own; rfl
theorem zrg:Rd σ 25 (.dict none []):=by unfold Rd own; rfl
theorem zo8:Rd σ 26 (.list σ.told):=by unfold Rd own; rfl
theorem znj:Rd σ 27 (.list σ.thrown):=by unfold Rd own; rfl
theorem zrk:Rd σ 36 (.inst 5 [(25,.obj 11),(26,.obj 25),(27,.obj 28)]):=by unfold Rd own; rfl
theorem Yl:Rd σ 40 (.dict (some .str) σ.kinds):=by unfold Rd own; rfl
theorem zjW:Rd σ 53 (.inst 6 (fF σ.stk σ.pre)):=by unfold Rd own; rfl
theorem zgG:Rd σ 60 (.list Wa):=by unfold Rd own; rfl
theorem zop:Rd σ 61 (.dict (some .int) zb7):=by unfold Rd own; rfl
theorem ze2:Rd σ 63 (.inst 3 (tF 16 16 62 0 3 1)):=by unfold Rd own; rfl
theorem zgr:Rd σ 65 (.inst 3 (tF 19 17 64 0 3 2)):=by unfold Rd own; rfl
theorem zgK:Rd σ 67 (.inst 3 (tF 22 18 66 0 3 3)):=by unfold Rd own; rfl
theorem zft:Rd σ 69 (.inst 3 (tF 25 19 68 0 3 4)):=by unfold Rd own; rfl
theorem zfo:Rd σ 71 (.inst 3 (tF 28 13 70 0 3 5)):=by unfold Rd own; rfl
theorem zeK:Rd σ 73 (.inst 3 (tF 31 7 72 0 3 6)):=by unfold Rd own; rfl
theorem zgb:Rd σ 75 (.inst 3 (tF 34 21 74 0 3 7)):=by unfold Rd own; rfl
theorem zv:Rd σ 76 (.dict (dk .int σ.arrays) σ.arrays):=by unfold Rd own; rfl
theorem zcI:Rd σ 77 (.list σ.order):=by unfold Rd own; rfl
theorem zjs:Rd σ 78 (.dict (dk .int σ.wcards) σ.wcards):=by unfold Rd own; rfl
theorem zpx:Rd σ 79 (.dict (some .str) (wF σ.bits σ.wtop)):=by unfold Rd own; rfl
end
theorem zcw {a:KK} {k v:AV} {es:List (AV×AV)} (h:kk k=some a) (b:es.length < big):Yq (dk a es) es k v=some (.dict (dk a (zB k v es)) (zB k v es)):=by
 have e:dk a (zB k v es)=some a:=by
  cases es with
  | nil=>rfl
  | cons x r=>obtain ⟨j,u⟩:=x; rw [zlD]; cases AV.eqb j k <;> rfl
 rw [Yq,h]
 refine (if_pos ⟨?_,b⟩).trans (by rw [e])
 cases es with
 | nil=>exact .inl rfl
 | cons=>exact .inr rfl
theorem qF {a:KK} {k v:AV} {es:List (AV×AV)} (h:kk k=some a) (b:es.length < big):Yq (some a) es k v=some (.dict (some a) (zB k v es)):=by
 rw [Yq,h]; exact if_pos ⟨Or.inr rfl,b⟩
theorem zic {a:KK} {k v:AV} (h:kk k=some a):Yq none [] k v=some (.dict (some a) [(k,v)]):=by
 rw [Yq,h]; exact if_pos (c:=((none:Option KK)=none∨none=some a)∧([]:List (AV×AV)).length < big) (e:=none) ⟨Or.inl rfl,Nat.le_of_ble_eq_true rfl⟩
theorem zx {a:KK} {k:AV} {es:List (AV×AV)} (h:kk k=some a):Wh (dk a es) es k=some (ze k es):=by
 rw [Wh,h]
 cases es with
 | nil=>rfl
 | cons=>exact if_pos rfl
theorem zt {a:KK} {k:AV} {es:List (AV×AV)} (h:kk k=some a):Wh (some a) es k=some (ze k es):=by
 rw [Wh,h]; exact if_pos rfl
theorem KY {a:KK} {k:AV} {es:List (AV×AV)} (h:kk k=some a):Wh none es k=some none:=by
 rw [Wh,h]; rfl
section
variable {scr:List Int} {σ σ':St} {r:Nat}
theorem Kx {c n:Nat} {fs:List (Nat×AV)} {v:AV} {P:AV→Prop} (h:Rd σ r (.inst c fs)) (h1:JA c n=true) (h2:zc n fs=some v) (q:P v):RA σ (.obj r) n P :=
 .mk fun _ R=>zpL (R.2 _ _ h) h1 h2 q
theorem qP {xs:List AV} {k:Int} {v:AV} {P:AV→Prop} (h:0≤k∧k < 1000000) (hv:xs[k.toNat]?=some v) (q:P v):RI scr σ (.tup xs) (.int k) P:=.mk fun _ _=>znf h hv q
theorem zkF {k i:Int} {P:AV→Prop} (h:0≤k∧k < 1000000) (hv:scr[k.toNat]?=some i) (q:P (.int i)):RI scr σ (.cst 3) (.int k) P:=.mk fun _ _=>zjN h hv q
theorem Ww {xs:List AV} {k:Int} {v:AV} {P:AV→Prop} (hr:Rd σ r (.list xs)) (h:0≤k∧k < 1000000) (hv:xs[k.toNat]?=some v) (q:P v):RI scr σ (.obj r) (.int k) P :=
 .mk fun _ R=>zoG (R.2 _ _ hr) h hv q
theorem zn {kd:Option KK} {es:List (AV×AV)} {k v:AV} {P:AV→Prop} (hr:Rd σ r (.dict kd es)) (h:Wh kd es k=some (some v)) (q:P v):RI scr σ (.obj r) k P :=
 .mk fun _ R=>zkV (R.2 _ _ hr) h q
theorem zk {kd:Option KK} {es:List (AV×AV)} {k:AV} {v:Option AV} {P:Option AV→Prop} (hr:Rd σ r (.dict kd es)) (h:Wh kd es k=some v) (q:P v):RG σ (.obj r) k P :=
 .mk fun _ R=>zkt (R.2 _ _ hr) h q
theorem zfA {c:Nat} {t:List (Int×Int)} {k:Int} {P:Option AV→Prop} (h:Yi c=some t) (q:P ((Ku k t).map .int)):RG σ (.cst c) (.int k) P :=
 .mk fun H _=>⟨(Ku k t).map .int,JU h rfl,q⟩
theorem zfs {kd:Option KK} {es:List (AV×AV)} (hr:Rd σ r (.dict kd es)):isD σ (.obj r):=.mk fun _ R=>zqr (R.2 _ _ hr)
theorem zhq {c:Nat} (h:(Yi c).isSome=true):isD σ (.cst c):=.mk fun _ _=>h
theorem zpi {xs:List AV} {P:Nat→Prop} (b:xs.length≤big) (q:P xs.length):LN scr σ (.tup xs) P:=.mk (.inl ⟨xs,rfl,b,q⟩)
theorem zrp {xs:List AV} {P:Nat→Prop} (b:Nat.ble xs.length big=true) (q:P xs.length):LN scr σ (.tup xs) P:=zpi (Nat.le_of_ble_eq_true b) q
theorem zfW {xs:List AV} {P:Nat→Prop} (h:Rd σ r (.list xs)) (b:xs.length≤big) (q:P xs.length):LN scr σ (.obj r) P:=.mk (.inr (.inl ⟨r,xs,rfl,h,b,q⟩))
theorem zj6 {P:Nat→Prop} (b:scr.length≤big) (q:P scr.length):LN scr σ (.cst 3) P:=.mk (.inr (.inr ⟨rfl,b,q⟩))
theorem Yg {c n:Nat} {fs:List (Nat×AV)} {v:AV} {P:St→Prop} (h:Rd σ r (.inst c fs)) (h1:JA c n=true) (h2:fs.length < 100) (e:own σ'=zf r (.inst c (zf n v fs)) (own σ)) (q:P σ'):SA σ (.obj r) n v P :=
 .mk fun _ R=>zoT (R.2 _ _ h) h1 h2 ⟨σ',R.set h e,q⟩
theorem zX {α:Type} {r:Nat} {a b:α}:∀ {l:List (Nat×α)},zf r a (zf r b l)=zf r a l
 | []=>by show zf r a [(r,b)]=[(r,a)]; rw [Vw,zaW]
 | (j,u)::l=>by
  rw [Vw,Vw]
  by_cases e:j=r
  ·subst e; rw [zaW]; dsimp only; rw [Vw,zaW]
  ·rw [Zv e]; dsimp only; rw [Vw,Zv e]; dsimp only; rw [zX]
theorem ziZ {c n:Nat} {fs:List (Nat×AV)} {v:AV} {d:List (Nat×AO)} {P:St→Prop} (e:σ.dyn=zf r (.inst c fs) d) (hr:80≤r) (h1:JA c n=true) (h2:fs.length < 100) (q:P { σ with dyn:=zf r (.inst c (zf n v fs)) d }):SA σ (.obj r) n v P:=by
 refine Yg (c:=c) (fs:=fs) (zu (by rw [e]; exact .mk hr (by rw [zr,if_pos rfl]))) h1 h2 (yU hr).symm ?_
 rw [e,zX]; exact q
theorem zhs {x:AO} {ys:List AV} {d:List (Nat×AO)} {P:St→Prop} (e:σ.dyn=zf r x d) (hr:80≤r) (q:P { σ with dyn:=zf r (.list ys) d }):PU σ r ys P:=by
 refine .mk fun H R=>⟨_,R.set (zu (o:=x) (by rw [e]; exact .mk hr (by rw [zr,if_pos rfl]))) (yU hr).symm,?_⟩
 rw [e,zX]; exact q
theorem zj7 {c n:Nat} {fs:List (Nat×AV)} {v:AV} {P:St→Prop} (h:Dl σ.dyn r (.inst c fs)) (h1:JA c n=true) (h2:fs.length < 100) (q:P { σ with dyn:=zf r (.inst c (zf n v fs)) σ.dyn }):SA σ (.obj r) n v P :=
 Yg (zu h) h1 h2 (yU h.ge).symm q
theorem zhb {i:Int} {P:St→Prop} (q:P { σ with state:=i }):SA σ (.obj 17) 43 (.int i) P:=Yg znk rfl (show (31:Nat) < 100 by decide) (by unfold own; rfl) q
theorem zmC {i:Nat} {P:St→Prop} (q:P { σ with stk:=i }):SA σ (.obj 53) 35 (.obj i) P:=Yg zjW rfl (show (15:Nat) < 100 by decide) (by unfold own; rfl) q
theorem zku {i:Int} {P:St→Prop} (q:P { σ with pre:=i }):SA σ (.obj 53) 42 (.int i) P:=Yg zjW rfl (show (15:Nat) < 100 by decide) (by unfold own; rfl) q
theorem zm5 {i:Int} {P:St→Prop} (q:P { σ with top:=i }):SA σ (.obj 11) 15 (.int i) P:=Yg zgC rfl (show (12:Nat) < 100 by decide) (by unfold own; rfl) q
theorem zfu {i:Int} {P:St→Prop} (q:P { σ with fresh:=i }):SA σ (.obj 11) 19 (.int i) P:=Yg zgC rfl (show (12:Nat) < 100 by decide) (by unfold own; rfl) q
theorem zif {i:Int} {P:St→Prop} (q:P { σ with made:=i }):SA σ (.obj 11) 24 (.int i) P:=Yg zgC rfl (show (12:Nat) < 100 by decide) (by unfold own; rfl) q
theorem Wd {kd:Option KK} {es:List (AV×AV)} {k v:AV} {o:AO} {P:St→Prop} (h:Rd σ r (.dict kd es)) (h1:Yq kd es k v=some o) (e:own σ'=zf r o (own σ)) (q:P σ'):SI σ (.obj r) k v P :=
 .mk fun _ R=>zlu (R.2 _ _ h) h1 ⟨σ',R.set h e,q⟩
theorem YC {xs:List AV} {k:Int} {v:AV} {P:St→Prop} (h:Dl σ.dyn r (.list xs)) (b:0≤k∧k < xs.length∧k < 1000000) (q:P { σ with dyn:=zf r (.list (xs.set k.toNat v)) σ.dyn }):SI σ (.obj r) (.int k) v P :=
 .mk fun _ R=>zoF (R.2 _ _ (zu h)) b ⟨_,R.set (zu h) (yU h.ge).symm,q⟩
theorem ziw {kd:Option KK} {es:List (AV×AV)} {k v:AV} {o:AO} {P:St→Prop} (h:Dl σ.dyn r (.dict kd es)) (h1:Yq kd es k v=some o) (q:P { σ with dyn:=zf r o σ.dyn }):SI σ (.obj r) k v P :=
 Wd (zu h) h1 (yU h.ge).symm q
theorem zha {k v:AV} {P:St→Prop} (h:kk k=some .tup) (b:σ.index.length < big) (q:P { σ with index:=zB k v σ.index }):SI σ (.obj 3) k v P:=Wd zgD (qF h b) (by unfold own; rfl) q
theorem zpl {k v:AV} {P:St→Prop} (h:kk k=some .int) (b:σ.at_.length < big) (q:P { σ with at_:=zB k v σ.at_ }):SI σ (.obj 13) k v P:=Wd Zo (qF h b) (by unfold own; rfl) q
theorem xX {k v:AV} {P:St→Prop} (h:kk k=some .str) (b:σ.kinds.length < big) (q:P { σ with kinds:=zB k v σ.kinds }):SI σ (.obj 40) k v P:=Wd Yl (qF h b) (by unfold own; rfl) q
theorem zex {k v:AV} {P:St→Prop} (h:kk k=some .int) (b:σ.cards.length < big) (q:P { σ with cards:=zB k v σ.cards }):SI σ (.obj 14) k v P:=Wd zjD (zcw h b) (by unfold own; rfl) q
theorem zep {k v:AV} {P:St→Prop} (h:kk k=some .int) (b:σ.wcards.length < big) (q:P { σ with wcards:=zB k v σ.wcards }):SI σ (.obj 78) k v P:=Wd zjs (zcw h b) (by unfold own; rfl) q
theorem zd7 {k v:AV} {P:St→Prop} (h:kk k=some .int) (b:σ.arrays.length < big) (q:P { σ with arrays:=zB k v σ.arrays }):SI σ (.obj 76) k v P:=Wd zv (zcw h b) (by unfold own; rfl) q
theorem zlO {k v:AV} {P:St→Prop} (h:kk k=some .tup) (b:σ.kin.length < big) (q:P { σ with kin:=zB k v σ.kin }):SI σ (.obj 18) k v P:=Wd zjP (zcw h b) (by unfold own; rfl) q
theorem zh8 {i:Int} {P:St→Prop} (q:P { σ with wtop:=i }):SI σ (.obj 79) (.str [116,111,112]) (.int i) P:=Wd zpx rfl (by unfold own; rfl) q
theorem VW {x:AO} {ys:List AV} {P:St→Prop} (h:Rd σ r x) (e:own σ'=zf r (.list ys) (own σ)) (q:P σ'):PU σ r ys P:=.mk fun _ R=>⟨σ',R.set h e,q⟩
@[irreducible] noncomputable def Dm (d:List (Nat×AO)) (r:Nat):Prop:=∃ o,Dl d r o
theorem zgs {d r o} (h:Dl d r o):Dm d r:=by unfold Dm; exact ⟨o,h⟩
theorem zjU {d r o} (a:80≤r):Dm (zf r o d) r:=zgs (zhi a)
theorem zkH {d r q x} (h:Dm d r):Dm (zf q x d) r:=by
 unfold Dm at h; obtain ⟨o,h⟩:=h
 by_cases e:r=q
 ·subst e; exact zjU h.ge
 ·exact zgs (zo e h)
theorem znT {ys:List AV} {P:St→Prop} (h:Dm σ.dyn r) (q:P { σ with dyn:=zf r (.list ys) σ.dyn }):PU σ r ys P:=by
 unfold Dm at h; obtain ⟨o,h⟩:=h
 exact VW (zu h) (yU h.ge).symm q
theorem zqw {x:AO} {ys:List AV} {P:St→Prop} (h:Dl σ.dyn r x) (q:P { σ with dyn:=zf r (.list ys) σ.dyn }):PU σ r ys P:=VW (zu h) (yU h.ge).symm q
theorem zid {ys:List AV} {P:St→Prop} (q:P { σ with rows:=ys }):PU σ 2 ys P:=VW zqt (by unfold own; rfl) q
theorem zdJ {ys:List AV} {P:St→Prop} (q:P { σ with depths:=ys }):PU σ 4 ys P:=VW zq5 (by unfold own; rfl) q
theorem zeL {ys:List AV} {P:St→Prop} (q:P { σ with opens:=ys }):PU σ 5 ys P:=VW zq9 (by unfold own; rfl) q
theorem zdQ {ys:List AV} {P:St→Prop} (q:P { σ with things:=ys }):PU σ 12 ys P:=VW zoU (by unfold own; rfl) q
theorem zhW {ys:List AV} {P:St→Prop} (q:P { σ with told:=ys }):PU σ 26 ys P:=VW zo8 (by unfold own; rfl) q
theorem zel {ys:List AV} {P:St→Prop} (q:P { σ with thrown:=ys }):PU σ 27 ys P:=VW znj (by unfold own; rfl) q
theorem zgf {ys:List AV} {P:St→Prop} (q:P { σ with order:=ys }):PU σ 77 ys P:=VW zcI (by unfold own; rfl) q
end
section
variable {σ:St} {Q:AV→St→Prop} {x y:Int}
theorem znZ (q:Q (.int (x + y)) σ):WB .Add (.int x) (.int y) σ Q:=.mk fun _ h=>zn8 ⟨σ,h,q⟩
theorem znq (q:Q (.int (x - y)) σ):WB .Sub (.int x) (.int y) σ Q:=.mk fun _ h=>zng ⟨σ,h,q⟩
theorem zog (e:x.natAbs < 2 ^ 64∨y.natAbs < 2 ^ 64) (q:Q (.int (x * y)) σ):WB .Mult (.int x) (.int y) σ Q:=.mk fun _ h=>zpT e ⟨σ,h,q⟩
theorem zfj (e:¬ (y=0∨2 ^ 65≤y.natAbs)) (q:Q (.int (x.fdiv y)) σ):WB .FloorDiv (.int x) (.int y) σ Q:=.mk fun _ h=>zm1 e ⟨σ,h,q⟩
theorem Y5 (e:¬ (y=0∨2 ^ 65≤y.natAbs)) (q:Q (.int (x.fmod y)) σ):WB .Mod (.int x) (.int y) σ Q:=.mk fun _ h=>zpO e ⟨σ,h,q⟩
theorem ze8 (e:x.natAbs < 2 ^ 64∧0≤y∧y≤64) (q:Q (.int (x ^ y.toNat)) σ):WB .Pow (.int x) (.int y) σ Q:=.mk fun _ h=>zol e ⟨σ,h,q⟩
theorem zjx (e:x.natAbs < 2 ^ 64∧0≤y∧y≤64) (q:Q (.int (x * 2 ^ y.toNat)) σ):WB .LShift (.int x) (.int y) σ Q:=.mk fun _ h=>zoq e ⟨σ,h,q⟩
theorem zjt (e:0≤y) (q:Q (.int (x.fdiv (2 ^ y.toNat))) σ):WB .RShift (.int x) (.int y) σ Q:=.mk fun _ h=>zo3 e ⟨σ,h,q⟩
theorem zoD (q:Q (.int (Builtin.bitAnd x y)) σ):WB .BitAnd (.int x) (.int y) σ Q:=.mk fun _ h=>znH ⟨σ,h,q⟩
theorem ze4 {s t:List Nat} (e:s.length + t.length≤1000) (q:Q (.str (s++t)) σ):WB .Add (.str s) (.str t) σ Q:=.mk fun _ h=>zl6 e ⟨σ,h,q⟩
theorem zbf {r p:Nat} {xs ys:List AV} (hr:Rd σ r (.list xs)) (hp:Rd σ p (.list ys)) (e:xs.length + ys.length≤big) (q:NW σ (.list (xs++ys)) fun r σ1=>Q (.obj r) σ1):WB .Add (.obj r) (.obj p) σ Q :=
 .mk fun _ h=>zkn (h.2 _ _ hr) (h.2 _ _ hp) e ⟨_,h.make,q.go _ h.1 h.none⟩
theorem zfb {r:Nat} {xs:List AV} (hr:Rd σ r (.list xs)) (e:0≤y∧y≤100∧xs.length≤2) (q:NW σ (.list (List.replicate y.toNat xs).flatten) fun r σ1=>Q (.obj r) σ1):WB .Mult (.obj r) (.int y) σ Q :=
 .mk fun _ h=>zmR (h.2 _ _ hr) e ⟨_,h.make,q.go _ h.1 h.none⟩
end
section
variable {σ:St} {Q:Bool→St→Prop} {x y:Int} {s t:List Nat}
theorem zjT (q:Q (decide (x=y)) σ):WQ .Eq (.int x) (.int y) σ Q:=.mk fun _ h=>zpa ⟨σ,h,q⟩
theorem zjQ (q:Q (!decide (x=y)) σ):WQ .NotEq (.int x) (.int y) σ Q:=.mk fun _ h=>zn9 ⟨σ,h,q⟩
theorem zqY (q:Q (decide (x < y)) σ):WQ .Lt (.int x) (.int y) σ Q:=.mk fun _ h=>zqg ⟨σ,h,q⟩
theorem zqU (q:Q (decide (x≤y)) σ):WQ .LtE (.int x) (.int y) σ Q:=.mk fun _ h=>zqh ⟨σ,h,q⟩
theorem zqF (q:Q (decide (y < x)) σ):WQ .Gt (.int x) (.int y) σ Q:=.mk fun _ h=>zpp ⟨σ,h,q⟩
theorem zqy (q:Q (decide (y≤x)) σ):WQ .GtE (.int x) (.int y) σ Q:=.mk fun _ h=>zqu ⟨σ,h,q⟩
theorem znD (q:Q (decide (s=t)) σ):WQ .Eq (.str s) (.str t) σ Q:=.mk fun _ h=>zpm ⟨σ,h,q⟩
theorem zjK (q:Q (!decide (s=t)) σ):WQ .NotEq (.str s) (.str t) σ Q:=.mk fun _ h=>zoC ⟨σ,h,q⟩
theorem zfV {xs ys:List AV} (e:(xs.all (zg 5)&&ys.all (zg 5))=true) (q:Q (AV.eqbs xs ys) σ):WQ .Eq (.tup xs) (.tup ys) σ Q:=.mk fun _ h=>zn2 e ⟨σ,h,q⟩
theorem zor {xs ys:List AV} (e:(xs.all (zg 5)&&ys.all (zg 5))=true) (q:Q (!AV.eqbs xs ys) σ):WQ .NotEq (.tup xs) (.tup ys) σ Q:=.mk fun _ h=>zph e ⟨σ,h,q⟩
theorem YT {r p:Nat} {xs ys:List AV} (hr:Rd σ r (.list xs)) (hp:Rd σ p (.list ys)) (e:(xs.all (zg 6)&&ys.all (zg 6))=true) (q:Q (AV.eqbs xs ys) σ):WQ .Eq (.obj r) (.obj p) σ Q :=
 .mk fun _ h=>zok (h.2 _ _ hr) (h.2 _ _ hp) e ⟨σ,h,q⟩
theorem zos {r p:Nat} {xs ys:List AV} (hr:Rd σ r (.list xs)) (hp:Rd σ p (.list ys)) (e:(xs.all (zg 6)&&ys.all (zg 6))=true) (q:Q (!AV.eqbs xs ys) σ):WQ .NotEq (.obj r) (.obj p) σ Q :=
 .mk fun _ h=>zno (h.2 _ _ hr) (h.2 _ _ hp) e ⟨σ,h,q⟩
theorem znF {r:Nat} (q:Q false σ):WQ .Is (.obj r) .none σ Q:=.mk fun _ h=>zpZ ⟨σ,h,q⟩
theorem zom {xs:List AV} (q:Q false σ):WQ .Is (.tup xs) .none σ Q:=.mk fun _ h=>znB ⟨σ,h,q⟩
theorem zo1 (q:Q true σ):WQ .Is .none .none σ Q:=.mk fun _ h=>zpc ⟨σ,h,q⟩
theorem zjb {r:Nat} (q:Q true σ):WQ .IsNot (.obj r) .none σ Q:=.mk fun _ h=>zi7 ⟨σ,h,q⟩
theorem zi6 {xs:List AV} (q:Q true σ):WQ .IsNot (.tup xs) .none σ Q:=.mk fun _ h=>zjg ⟨σ,h,q⟩
theorem ziq (q:Q false σ):WQ .IsNot .none .none σ Q:=.mk fun _ h=>zhu ⟨σ,h,q⟩
theorem Z6 {a:AV} {ys:List AV} (e:(zg 5 a&&ys.all (zg 5))=true) (q:Q (ys.any fun y=>AV.eqb y a) σ):WQ .In a (.tup ys) σ Q:=.mk fun _ h=>zoI e ⟨σ,h,q⟩
theorem zoz {a:AV} {r:Nat} (q:RG σ (.obj r) a fun v=>Q v.isSome σ):WQ .In a (.obj r) σ Q:=.mk fun H h=>zpn ((q.go H h).mono fun _ q=>⟨σ,h,q⟩)
theorem zlZ {a:AV} {r:Nat} (q:RG σ (.obj r) a fun v=>Q (!v.isSome) σ):WQ .NotIn a (.obj r) σ Q:=.mk fun H h=>zmP ((q.go H h).mono fun _ q=>⟨σ,h,q⟩)
end
noncomputable def Vr:Option (Nat×List AV)→AH→Bool
 | none,_=>true
 | some (r,xs),H=>match H[r]? with | some (.list ys)=>AV.eqbs xs ys | _=>false
noncomputable def zee (σ:St):Option (Nat×List AV)→Prop
 | none=>True
 | some (r,xs)=>Rd σ r (.list xs)
theorem zee.same {σ:St} {k H} (h:zee σ k) (R:Rep σ H):Vr k H=true:=by
 cases k with
 | none=>rfl
 | some p=>obtain ⟨r,xs⟩:=p; rw [Vr,R.2 _ _ h]; exact AV.eqbs_refl xs
@[irreducible] noncomputable def WF (scr:List Int) (C:zi) (i:Nat) (b:List S) (k:Option (Nat×List AV)) (vs:List AV) (ρ:Loc) (σ:St) (Q:Fl→Loc→St→Prop):Prop :=
 ∀ H,Rep σ H→W4 scr C i b (Vr k) vs ρ H fun fl ρ=>Lf (fun (_:Unit)=>Q fl ρ) ()
theorem WF.mk {scr C i b k vs ρ σ Q} (h:∀ H,Rep σ H→W4 scr C i b (Vr k) vs ρ H fun fl ρ=>Lf (fun (_:Unit)=>Q fl ρ) ()):WF scr C i b k vs ρ σ Q:=by unfold WF; exact h
theorem WF.go {scr C i b k vs ρ σ Q} (h:WF scr C i b k vs ρ σ Q):∀ H,Rep σ H→W4 scr C i b (Vr k) vs ρ H fun fl ρ=>Lf (fun (_:Unit)=>Q fl ρ) ():=by unfold WF at h; exact h
@[irreducible] noncomputable def LE (scr:List Int) (C:zi) (ss:List S) (Q:Fl→Loc→St→Prop) (fl:Fl) (ρ:Loc) (σ:St):Prop:=match fl with | .next=>WS scr C ss ρ σ Q | .ret v=>Q (.ret v) ρ σ
@[irreducible] noncomputable def BE (scr:List Int) (C:zi) (i:Nat) (b:List S) (k:Option (Nat×List AV)) (vs:List AV) (Q:Fl→Loc→St→Prop) (fl:Fl) (ρ:Loc) (σ:St):Prop:=match fl with | .next=>zee σ k∧WF scr C i b k vs ρ σ Q | .ret v=>Q (.ret v) ρ σ
@[irreducible] noncomputable def RV (Q:AV→St→Prop) (fl:Fl) (σ:St):Prop:=Q (znI fl) σ
section
variable {scr:List Int} {C:zi} {ρ:Loc} {σ:St} {Q:Fl→Loc→St→Prop} {ss:List S} {i:Nat} {b:List S} {k:Option (Nat×List AV)} {vs:List AV} {v:AV}
theorem zrA (q:WS scr C ss ρ σ Q):LE scr C ss Q .next ρ σ:=by unfold LE; exact q
theorem zrr (q:Q (.ret v) ρ σ):LE scr C ss Q (.ret v) ρ σ:=by unfold LE; exact q
theorem zrm (q:zee σ k∧WF scr C i b k vs ρ σ Q):BE scr C i b k vs Q .next ρ σ:=by unfold BE; exact q
theorem zrt (q:WF scr C i b none vs ρ σ Q):BE scr C i b none vs Q .next ρ σ:=by unfold BE; exact ⟨trivial,q⟩
theorem zro {r:Nat} {xs:List AV} (h:Rd σ r (.list xs)) (q:WF scr C i b (some (r,xs)) vs ρ σ Q):BE scr C i b (some (r,xs)) vs Q .next ρ σ:=by unfold BE; exact ⟨h,q⟩
theorem zrD (q:Q (.ret v) ρ σ):BE scr C i b k vs Q (.ret v) ρ σ:=by unfold BE; exact q
theorem zrs {Q:AV→St→Prop} (q:Q v σ):RV Q (.ret v) σ:=by unfold RV; exact q
theorem zrx {Q:AV→St→Prop} (q:Q .none σ):RV Q .next σ:=by unfold RV; exact q
theorem zjB (q:Q .next ρ σ):WF scr C i b k [] ρ σ Q:=.mk fun _ h=>zoK ⟨σ,h,q⟩
theorem zdb (q:WS scr C b (zf i v ρ) σ (BE scr C i b k vs Q)):WF scr C i b k (v::vs) ρ σ Q :=
 .mk fun H h=>zmn ((q.go H h).mono fun fl ρ1 H1 ⟨σ1,h1,q1⟩=>by
  unfold BE at q1
  cases fl with
  | next=>exact ⟨q1.1.same h1,q1.2.go H1 h1⟩
  | ret v=>exact ⟨σ1,h1,q1⟩)
theorem zgF (I:List AV→Loc→St→Prop) (step:∀ v vs ρ σ,I (v::vs) ρ σ→WS scr C b (zf i v ρ) σ fun fl ρ1 σ1=>match fl with | .next=>zee σ1 k∧I vs ρ1 σ1 | .ret v=>Q (.ret v) ρ1 σ1)
  (fin:∀ ρ σ,I [] ρ σ→Q .next ρ σ):∀ {vs ρ σ},I vs ρ σ→WF scr C i b k vs ρ σ Q
 | [],_,_,h=>zjB (fin _ _ h)
 | v::vs,ρ,σ,h=>zdb ((step v vs ρ σ h).mono fun fl ρ1 σ1 q=>by
  unfold BE
  cases fl with
  | next=>exact ⟨q.1,zgF I step fin q.2⟩
  | ret v=>exact q)
theorem noR {e:X} (h:(match e with | .range _=>false | _=>true)=true):∀ x,e≠.range x:=by rintro x rfl; cases h
theorem zeH {e:X} (q:WE scr C e ρ σ fun v σ1=>∃ n:Int,v=.int n∧(-1000≤n∧n≤1000)∧WF scr C i b none (yo n.toNat) ρ σ1 (LE scr C ss Q)):WS scr C (.loop i (.range e) b::ss) ρ σ Q :=
 .mk fun H h=>zhh ((q.go H h).mono fun _ H1 z1c=>by obtain ⟨_,h1,n,e,hn,q⟩:=z1c; exact ⟨n,e,hn,by
  obtain ⟨fl,ρ2,H2,a,σ2,h2,q2⟩:=q.go H1 h1
  exact ⟨fl,ρ2,H2,a,by unfold LE at q2; cases fl with | next=>exact q2.go H2 h2 | ret v=>exact ⟨σ2,h2,q2⟩⟩⟩)
theorem zeC {e:X} (he:∀ x,e≠.range x) (q:WE scr C e ρ σ fun v σ1=>∃ xs,v=.tup xs∧WF scr C i b none xs ρ σ1 (LE scr C ss Q)):WS scr C (.loop i e b::ss) ρ σ Q :=
 .mk fun H h=>zf4 he ((q.go H h).mono fun _ H1 z2c=>by obtain ⟨_,h1,xs,e,q⟩:=z2c; exact ⟨(xs,Vr none),by rw [e]; rfl,by
  obtain ⟨fl,ρ2,H2,a,σ2,h2,q2⟩:=q.go H1 h1
  exact ⟨fl,ρ2,H2,a,by unfold LE at q2; cases fl with | next=>exact q2.go H2 h2 | ret v=>exact ⟨σ2,h2,q2⟩⟩⟩)
theorem zg0 {e:X} (he:∀ x,e≠.range x) (q:WE scr C e ρ σ fun v σ1=>∃ r xs,v=.obj r∧Rd σ1 r (.list xs)∧WF scr C i b (some (r,xs)) xs ρ σ1 (LE scr C ss Q)):WS scr C (.loop i e b::ss) ρ σ Q :=
 .mk fun H h=>zf4 he ((q.go H h).mono fun _ H1 z3c=>by obtain ⟨_,h1,r,xs,e,hr,q⟩:=z3c; exact ⟨(xs,Vr (some (r,xs))),by rw [e]; show (match H1[r]? with | some (AO.list xs)=>some (xs,fun H':AH=>match H'[r]? with | some (.list ys)=>AV.eqbs xs ys | _=>false) | _=>none)=_; rw [h1.2 _ _ hr]; rfl,by
  obtain ⟨fl,ρ2,H2,a,σ2,h2,q2⟩:=q.go H1 h1
  exact ⟨fl,ρ2,H2,a,by unfold LE at q2; cases fl with | next=>exact q2.go H2 h2 | ret v=>exact ⟨σ2,h2,q2⟩⟩⟩)
@[irreducible] noncomputable def WW (scr:List Int) (C:zi) (n:Nat) (t:X) (b:List S) (ρ:Loc) (σ:St) (Q:Fl→Loc→St→Prop):Prop :=
 ∀ H,Rep σ H→∃ fl ρ' H',jT (tst (JK scr) C t) (y0 (JK scr) C b) n ρ H=some (fl,ρ',H')∧∃ σ',Rep σ' H'∧Q fl ρ' σ'
@[irreducible] noncomputable def WT2 (scr:List Int) (C:zi) (n:Nat) (t:X) (b:List S) (Q:Fl→Loc→St→Prop) (fl:Fl) (ρ:Loc) (σ:St):Prop:=match fl with | .next=>WW scr C n t b ρ σ Q | .ret v=>Q (.ret v) ρ σ
theorem zri {t:X} {n:Nat} (q:WW scr C n t b ρ σ Q):WT2 scr C n t b Q .next ρ σ:=by unfold WT2; exact q
theorem zrh {t:X} {n:Nat} (q:Q (.ret v) ρ σ):WT2 scr C n t b Q (.ret v) ρ σ:=by unfold WT2; exact q
theorem zhm {t:X} {n:Nat} (q:WT scr C t ρ σ fun c σ1=>Br c (WS scr C b ρ σ1 (WT2 scr C n t b Q)) (Q .next ρ σ1)):WW scr C (n + 1) t b ρ σ Q:=by
 unfold WW
 intro H h
 obtain ⟨c,H1,h1,σ1,R1,q⟩:=q.go H h
 cases c with
 | false=>exact ⟨_,_,_,by show Option.bind (tst (JK scr) C t ρ H) _=_; rw [h1]; rfl,σ1,R1,q.2 rfl⟩
 | true =>
  obtain ⟨fl,ρ2,H2,h2,σ2,R2,q2⟩:=(q.1 rfl).go H1 R1
  cases fl with
  | ret v=>unfold WT2 at q2; exact ⟨_,_,_,by show Option.bind (tst (JK scr) C t ρ H) _=_; rw [h1]; show (y0 _ _ b ρ H1).bind _=_; rw [h2]; rfl,σ2,R2,q2⟩
  | next =>
   unfold WT2 at q2
   dsimp only at q2
   unfold WW at q2
   obtain ⟨fl,ρ3,H3,h3,q3⟩:=q2 H2 R2
   exact ⟨fl,ρ3,H3,by show Option.bind (tst (JK scr) C t ρ H) _=_; rw [h1]; show (y0 _ _ b ρ H1).bind _=_; rw [h2]; exact h3,q3⟩
theorem zgV {t:X} (q:WW scr C 100 t b ρ σ (LE scr C ss Q)):WS scr C (.while t b::ss) ρ σ Q :=
 .mk fun H h=>by
  unfold WW at q
  obtain ⟨fl,ρ2,H2,h2,σ2,R2,q⟩:=q H h
  exact yg ⟨fl,ρ2,H2,h2,by unfold LE at q; cases fl with | next=>exact q.go H2 R2 | ret v=>exact ⟨σ2,R2,q⟩⟩
end
@[irreducible] noncomputable def PP (σ:St) (x:AV) (Q:AV→St→Prop):Prop:=∃ r ys y,x=.obj r∧Rd σ r (.list (ys++[y]))∧ys.length < big∧PU σ r ys fun σ2=>Q y σ2
theorem zqj {scr C o ρ} {σ:St} {Q:AV→St→Prop} (q:WE scr C o ρ σ fun x σ1=>PP σ1 x Q):WE scr C (.pop o) ρ σ Q:=znE (q.mono fun _ _ h=>by unfold PP at h; exact h)
theorem znL {r:Nat} {a:AV} {σ:St} {Q:AV→St→Prop} (h:Rd σ r (.list [a])) (q:PU σ r [] fun σ2=>Q a σ2):PP σ (.obj r) Q:=by unfold PP; exact ⟨r,[],a,rfl,h,by decide,q⟩
theorem zn1 {r:Nat} {a b:AV} {σ:St} {Q:AV→St→Prop} (h:Rd σ r (.list [a,b])) (q:PU σ r [a] fun σ2=>Q b σ2):PP σ (.obj r) Q:=by unfold PP; exact ⟨r,[a],b,rfl,h,show 1 < big by decide,q⟩
theorem zoJ {r:Nat} {a b c:AV} {σ:St} {Q:AV→St→Prop} (h:Rd σ r (.list [a,b,c])) (q:PU σ r [a,b] fun σ2=>Q c σ2):PP σ (.obj r) Q:=by unfold PP; exact ⟨r,[a,b],c,rfl,h,show 2 < big by decide,q⟩
theorem zoW {r:Nat} {a b c d:AV} {σ:St} {Q:AV→St→Prop} (h:Rd σ r (.list [a,b,c,d])) (q:PU σ r [a,b,c] fun σ2=>Q d σ2):PP σ (.obj r) Q:=by unfold PP; exact ⟨r,[a,b,c],d,rfl,h,show 3 < big by decide,q⟩
@[irreducible] noncomputable def ME (scr:List Int) (C:zi) (x:AV) (n:Nat) (args:List X) (ρ:Loc) (σ:St) (Q:AV→St→Prop):Prop :=
 ∃ r c fs f,x=.obj r∧Rd σ r (.inst c fs)∧JW c n=some f∧zc n fs=none∧WL scr C args ρ σ fun vs σ2=>WC C f (.obj r::vs) σ2 Q
theorem zpG {scr C r c n fs f args ρ} {σ:St} {Q:AV→St→Prop} (h:Rd σ r (.inst c fs)) (h1:JW c n=some f) (h2:zc n fs=none) (q:WL scr C args ρ σ fun vs σ2=>WC C f (.obj r::vs) σ2 Q):ME scr C (.obj r) n args ρ σ Q:=by
 unfold ME; exact ⟨r,c,fs,f,rfl,h,h1,h2,q⟩
theorem zqX {scr C o n args ρ} {σ:St} {Q:AV→St→Prop} (q:WE scr C o ρ σ fun x σ1=>ME scr C x n args ρ σ1 Q):WE scr C (.meth o n args) ρ σ Q :=
 zfr (q.mono fun _ _ h=>by unfold ME at h; exact h)
theorem zcx {scr:List Int} {d f n:Nat} {vs:List AV} {σ:St} {b:List S} {Q:AV→St→Prop} (h:Jz f=some (n,b)) (hn:Nat.beq vs.length n=true)
  (q:WS scr (cf scr d) b (yt 0 vs) σ fun fl _=>RV Q fl):WC (cf scr (d + 1)) f vs σ Q :=
 .mk fun H hH=>zhe h hn ((q.go H hH).mono fun _ _ _ z4d=>by obtain ⟨σ1,r,q⟩:=z4d; exact ⟨σ1,r,by unfold RV at q; exact q⟩)
theorem zp2 {α:Type} {v:α} {Q:α→Prop} (q:Q v):Wo (some v) Q:=⟨v,rfl,q⟩
theorem zpR {b:Bool} {Q:Bool→Prop} (q:Q b):Wo (truth (.bool b)) Q:=⟨b,rfl,q⟩
theorem zrq {i:Int} {Q:Bool→Prop} (q:Q (decide (i≠0))):Wo (truth (.int i)) Q:=⟨_,rfl,q⟩
noncomputable def Sub (d D:List (Nat×AO)):Prop:=∀ r o,zc r d=some o→zc r D=some o
theorem Jp {d D r o} (h:Sub d D):Sub (zf r o d) (zf r o D):=fun i y e=>by
 rw [zr] at e ⊢; split at e
 ·rename_i z; rw [if_pos z]; exact e
 ·rename_i z; rw [if_neg z]; exact h i y e
theorem yw {d}:Sub d d:=fun _ _ h=>h
theorem zl {d D r o} (n:zc r d=none) (h:Sub d D):Sub d (zf r o D):=fun i y e=>by
 rw [zr,if_neg (by rintro rfl; rw [n] at e; cases e)]; exact h i y e
theorem zb {r q:Nat} {x:AO} {d} (h:zc r (zf q x d)=none):zc r d=none:=by
 rw [zr] at h; split at h
 ·cases h
 ·exact h
theorem zI {d r q o} (h:Dl d r o) (n:zc q d=none):r≠q:=by rintro rfl; rw [h.at] at n; cases n
theorem zz {r q:Nat} {x:AO} {d} (h:zc r (zf q x d)=none):r≠q:=by
 rintro rfl; rw [zr,if_pos rfl] at h; cases h
@[irreducible] noncomputable def QD (Q:AV→St→Prop) (v:AV) (σ:St):Prop:=∃ σ0,(∀ H,Rep σ H→Rep σ0 H)∧Q v σ0
theorem ZK {Q:AV→St→Prop} {v σ} (q:Q v σ):QD Q v σ:=by unfold QD; exact ⟨σ,fun _ h=>h,q⟩
theorem zA {Q:AV→St→Prop} {v a b c e p s d D} (q:Q v (.mk a b c e p s d)) (h:Sub d D):QD Q v (.mk a b c e p s D):=by
 unfold QD; exact ⟨_,fun _ H=>Rep.dyn H h,q⟩
theorem Vi {σ:St} (a:σ.state=0) (b:σ.told=[]) (c:σ.thrown=[]):({ σ.toStc with state:=0,told:=[],thrown:=[] }:Stc)=σ.toStc:=by
 rw [show σ.toStc=Stc.mk σ.state σ.told σ.thrown σ.kin from rfl,a,b,c]
theorem zfL {scr:List Int} {d f n:Nat} {vs:List AV} {σ:St} {b:List S} {Q:AV→St→Prop} (h:Jz f=some (n,b)) (hn:Nat.beq vs.length n=true)
  (q:WS scr (cf scr d) b (yt 0 vs) σ fun fl _=>RV (QD Q) fl):WC (cf scr (d + 1)) f vs σ Q :=
 .mk fun H hH=>((zcx h hn q).go H hH).mono fun _ _ z5c=>by obtain ⟨σ1,r,q⟩:=z5c; exact by unfold QD at q; obtain ⟨σ0,a,b⟩:=q; exact ⟨σ0,a _ r,b⟩
@[irreducible] noncomputable def Lk (i:Nat) (ρ:Loc) (v:AV):Prop:=zc i ρ=some v
theorem zrl {i:Nat} {v:AV} {ρ:Loc}:Lk i (zf i v ρ) v:=by unfold Lk; rw [zr,if_pos rfl]
theorem zrc {i j:Nat} {v w:AV} {ρ:Loc} (h:Nat.beq j i=false) (e:Lk i ρ v):Lk i (zf j w ρ) v:=by
 unfold Lk at e ⊢
 rw [zr,if_neg (fun z=>by rw [z,Nat.beq_refl] at h; cases h)]; exact e
theorem zrw {i:Nat} {v:AV} {ρ:Loc} (e:zc i ρ=some v):Lk i ρ v:=by unfold Lk; exact e
theorem zrE {scr C ρ} {σ:St} {Q:AV→St→Prop} {i:Nat} {v:AV} (e:Lk i ρ v) (q:Q v σ):WE scr C (.loc i) ρ σ Q:=by unfold Lk at e; exact VM e q
theorem zrn {scr C ρ ss} {σ:St} {Q:Fl→Loc→St→Prop} {i:Nat} {e:X} {op:Operator} {a:AV} (ha:Lk i ρ a) (q:WE scr C e ρ σ fun y σ2=>∃ k j,a=.int k∧y=.int j∧WB op (.int k) (.int j) σ2 fun v σ3=>WS scr C ss (zf i v ρ) σ3 Q) :
  WS scr C (.augN i op e::ss) ρ σ Q:=by unfold Lk at ha; exact ze1 ha q
theorem zrf {i j k:Nat} {a b c:AV} {ρ:Loc} {Q:Loc→Prop} (q:Q (zf k c (zf j b (zf i a ρ)))):Wo (y8 [i,j,k] [a,b,c] ρ) Q:=⟨_,rfl,q⟩
theorem zre {i j:Nat} {a b:AV} {ρ:Loc} {Q:Loc→Prop} (q:Q (zf j b (zf i a ρ))):Wo (y8 [i,j] [a,b] ρ) Q:=⟨_,rfl,q⟩
theorem zF {r q:Nat} {v:AO} {D:List (Nat×AO)} (n:r≠q) (h:zc r D=none):zc r (zf q v D)=none:=by
 rw [zr,if_neg (Ne.symm n)]; exact h
noncomputable def al {α:Type} (i:Nat) (ρ:List (Nat×α)):Option α:=List.rec (motive:=fun _=>Option α) none (fun a _ ih=>Prod.rec (motive:=fun _=>Option α) (fun j v=>bif Nat.beq j i then some v else ih) a) ρ
noncomputable def put (i:Nat) (v:AV) (ρ:Loc):Loc:=List.rec (motive:=fun _=>Loc) [(i,v)] (fun a r ih=>Prod.rec (motive:=fun _=>Loc) (fun j u=>bif Nat.beq j i then (j,v)::r else (j,u)::ih) a) ρ
theorem V1 {α:Type} {i:Nat}:∀ {ρ:List (Nat×α)},al i ρ=zc i ρ
 | []=>rfl
 | (j,v)::r=>by
  show (bif Nat.beq j i then some v else al i r)=zc i ((j,v)::r)
  rw [V1 (ρ:=r),VY]
  cases Nat.beq j i <;> rfl
theorem Kp {i:Nat} {v:AV}:∀ {ρ:Loc},put i v ρ=zf i v ρ
 | []=>rfl
 | (j,u)::r=>by
  show (bif Nat.beq j i then (j,v)::r else (j,u)::put i v r)=zf i v ((j,u)::r)
  rw [Kp (ρ:=r),Vw]
  cases Nat.beq j i <;> rfl
noncomputable abbrev Ov {α:Type} (o:Option α) (P:α→Prop):Prop:=Option.rec (motive:=fun _=>Prop) False P o
theorem Ov.go {α:Type} {o:Option α} {P:α→Prop} (h:Ov o P):∃ v,o=some v∧P v:=by
 cases o with
 | none=>exact h.elim
 | some v=>exact ⟨v,rfl,h⟩
theorem Ov.mk {α:Type} {o:Option α} {P:α→Prop} {v:α} (e:o=some v) (h:P v):Ov o P:=by subst e; exact h
theorem Ov.wo {α:Type} {o:Option α} {P:α→Prop} (h:Ov o P):Wo o P:=h.go
noncomputable abbrev Iv (v:AV) (P:Int→Prop):Prop:=match v with | .int i=>P i | _=>False
noncomputable abbrev Tv (v:AV) (P:List AV→Prop):Prop:=match v with | .tup i=>P i | _=>False
noncomputable abbrev Sv (v:AV) (P:List Nat→Prop):Prop:=match v with | .str i=>P i | _=>False
theorem Iv.go {v:AV} {P:Int→Prop} (h:Iv v P):∃ i,v=.int i∧P i:=by
 cases v with
 | int i=>exact ⟨i,rfl,h⟩
 | _=>exact h.elim
theorem Tv.go {v:AV} {P:List AV→Prop} (h:Tv v P):∃ i,v=.tup i∧P i:=by
 cases v with
 | tup i=>exact ⟨i,rfl,h⟩
 | _=>exact h.elim
theorem Sv.go {v:AV} {P:List Nat→Prop} (h:Sv v P):∃ i,v=.str i∧P i:=by
 cases v with
 | str i=>exact ⟨i,rfl,h⟩
 | _=>exact h.elim
theorem Iv.mk {v:AV} {i:Int} {P:Int→Prop} (e:v=.int i) (h:P i):Iv v P:=by subst e; exact h
theorem Tv.mk {v:AV} {i:List AV} {P:List AV→Prop} (e:v=.tup i) (h:P i):Tv v P:=by subst e; exact h
@[irreducible] noncomputable def MW (σ:St) (x:AV) (n:Nat) (K:Nat→Nat→Prop):Prop:=∃ r c fs f,x=.obj r∧Rd σ r (.inst c fs)∧JW c n=some f∧zc n fs=none∧K f r
theorem zo6 {σ:St} {r c n f:Nat} {fs:List (Nat×AV)} {K:Nat→Nat→Prop} (h:Rd σ r (.inst c fs)) (h1:JW c n=some f) (h2:zc n fs=none) (q:K f r):MW σ (.obj r) n K:=by unfold MW; exact ⟨r,c,fs,f,rfl,h,h1,h2,q⟩
@[irreducible] noncomputable def LW (σ:St) (x:AV) (K:Nat→List AV→Prop):Prop:=∃ r xs,x=.obj r∧Rd σ r (.list xs)∧xs.length≤big∧K r xs
theorem LW.go {σ:St} {x:AV} {K:Nat→List AV→Prop} (h:LW σ x K):∃ r xs,x=.obj r∧Rd σ r (.list xs)∧xs.length≤big∧K r xs:=by unfold LW at h; exact h
theorem zpw {σ:St} {r:Nat} {xs:List AV} {K:Nat→List AV→Prop} (h:Rd σ r (.list xs)) (b:xs.length≤big) (q:K r xs):LW σ (.obj r) K:=by unfold LW; exact ⟨r,xs,rfl,h,b,q⟩
@[irreducible] noncomputable def AP (σ:St) (x:AV) (y:AV) (K:St→Prop):Prop:=∃ r ys,x=.obj r∧Rd σ r (.list ys)∧ys.length < big∧PU σ r (ys++[y]) K
theorem zpf {σ:St} {r:Nat} {ys:List AV} {y:AV} {K:St→Prop} (h:Rd σ r (.list ys)) (b:ys.length < big) (q:PU σ r (ys++[y]) K):AP σ (.obj r) y K:=by unfold AP; exact ⟨r,ys,rfl,h,b,q⟩
@[irreducible] noncomputable def LO (σ:St) (x:AV) (P:Prop):Prop:=∃ r xs,x=.obj r∧Rd σ r (.list xs)∧P
theorem zoE {σ:St} {r:Nat} {xs:List AV} {P:Prop} (h:Rd σ r (.list xs)) (q:P):LO σ (.obj r) P:=by unfold LO; exact ⟨r,xs,rfl,h,q⟩
@[irreducible] noncomputable def Sk (p:Prop):Prop:=p
theorem Sk.mk {p:Prop} (h:p):Sk p:=by unfold Sk; exact h
theorem Sk.go {p:Prop} (h:Sk p):p:=by unfold Sk at h; exact h
noncomputable abbrev PV:=AV→St→Prop
noncomputable abbrev PB:=Bool→St→Prop
noncomputable abbrev PF:=Fl→Loc→St→Prop
noncomputable abbrev WX:=St→PV→Prop
noncomputable def wBr (b:Bool) (P R:Prop):Prop:=Bool.rec (motive:=fun _=>Prop) R P b
theorem wBr.br:∀ {b:Bool} {P R:Prop},wBr b P R→Br b P R
 | true,_,_,h=>⟨fun _=>h,fun e=>Bool.noConfusion e⟩
 | false,_,_,h=>⟨fun e=>Bool.noConfusion e,fun _=>h⟩
noncomputable abbrev Jσ {α:Type} (σ:St) (Q:α→St→Prop) (v:α):Prop:=Q v σ
noncomputable abbrev Iv1 (v:AV) (P:Int→Prop) (fb:Prop):Prop:=match v with | .int i=>P i | _=>fb
noncomputable abbrev Sv1 (v:AV) (P:List Nat→Prop) (fb:Prop):Prop:=match v with | .str i=>P i | _=>fb
noncomputable abbrev Nv1 (v:AV) (P R fb:Prop):Prop:=match v with | .none=>P | .obj _=>R | .tup _=>R | _=>fb
noncomputable abbrev IS (x y:AV) (P:Int→Int→Prop) (R:List Nat→List Nat→Prop) (fb:Prop):Prop:=match x with | .int i=>Iv1 y (P i) fb | .str s=>Sv1 y (R s) fb | _=>fb
noncomputable abbrev II (x y:AV) (P:Int→Int→Prop) (fb:Prop):Prop:=match x with | .int i=>Iv1 y (P i) fb | _=>fb
noncomputable abbrev zqP (σ:St) (Q:PV) (i j:Int):Prop:=Q (.int (i + j)) σ
noncomputable abbrev zqz (σ:St) (Q:PV) (i j:Int):Prop:=Q (.int (i - j)) σ
noncomputable abbrev zp8 (σ:St) (Q:PV) (i j:Int):Prop:=Q (.int (Builtin.bitAnd i j)) σ
noncomputable def wB (op:Operator) (x y:AV) (σ:St) (Q:PV):Prop:=match op with
 | .Add=>II x y (zqP σ Q) (Sk (WB .Add x y σ Q))
 | .Sub=>II x y (zqz σ Q) (Sk (WB .Sub x y σ Q))
 | .BitAnd=>II x y (zp8 σ Q) (Sk (WB .BitAnd x y σ Q))
 | op=>Sk (WB op x y σ Q)
noncomputable abbrev OEq (σ:St) (Q:PB) (i j:Int):Prop:=Q (decide (i=j)) σ
noncomputable abbrev ONe (σ:St) (Q:PB) (i j:Int):Prop:=Q (!decide (i=j)) σ
noncomputable abbrev zqL (σ:St) (Q:PB) (i j:List Nat):Prop:=Q (decide (i=j)) σ
noncomputable abbrev zqS (σ:St) (Q:PB) (i j:List Nat):Prop:=Q (!decide (i=j)) σ
noncomputable abbrev OLt (σ:St) (Q:PB) (i j:Int):Prop:=Q (decide (i < j)) σ
noncomputable abbrev OLe (σ:St) (Q:PB) (i j:Int):Prop:=Q (decide (i≤j)) σ
noncomputable abbrev OGt (σ:St) (Q:PB) (i j:Int):Prop:=Q (decide (j < i)) σ
noncomputable abbrev OGe (σ:St) (Q:PB) (i j:Int):Prop:=Q (decide (j≤i)) σ
noncomputable def wQ (op:CmpOp) (x y:AV) (σ:St) (Q:PB):Prop:=match op with
 | .Eq=>IS x y (OEq σ Q) (zqL σ Q) (Sk (WQ .Eq x y σ Q))
 | .NotEq=>IS x y (ONe σ Q) (zqS σ Q) (Sk (WQ .NotEq x y σ Q))
 | .Lt=>II x y (OLt σ Q) (Sk (WQ .Lt x y σ Q))
 | .LtE=>II x y (OLe σ Q) (Sk (WQ .LtE x y σ Q))
 | .Gt=>II x y (OGt σ Q) (Sk (WQ .Gt x y σ Q))
 | .GtE=>II x y (OGe σ Q) (Sk (WQ .GtE x y σ Q))
 | .Is=>Nv1 y (Nv1 x (Q true σ) (Q false σ) (Sk (WQ .Is x y σ Q))) (Sk (WQ .Is x y σ Q)) (Sk (WQ .Is x y σ Q))
 | .IsNot=>Nv1 y (Nv1 x (Q false σ) (Q true σ) (Sk (WQ .IsNot x y σ Q))) (Sk (WQ .IsNot x y σ Q)) (Sk (WQ .IsNot x y σ Q))
 | op=>Sk (WQ op x y σ Q)
noncomputable def ziU {α:Type} (xs:List α):Nat→Option α:=List.rec (motive:=fun _=>Nat→Option α) (fun _=>none) (fun a _ ih n=>Nat.rec (motive:=fun _=>Option α) (some a) (fun m _=>ih m) n) xs
theorem qM {α:Type}:∀ {xs:List α} {n:Nat},ziU xs n=xs[n]?
 | [],_=>rfl
 | _::_,0=>rfl
 | _::xs,n + 1=>(qM (xs:=xs) (n:=n)).trans (List.getElem?_cons_succ).symm
noncomputable def wIt (xs:List AV) (k:Int) (σ:St) (Q:PV):Prop:=match k with
 | .ofNat n=>bif Nat.blt n 1000000 then Ov (ziU xs n) (Jσ σ Q) else False
 | .negSucc _=>False
noncomputable def qp (e:X):Option Int:=if q:Nat.beq e.ctorIdx 2=true then X.int.elim (motive_1:=fun _=>Option Int) e (Nat.eq_of_beq_eq_true q) some else none
theorem zqi {xs:List AV} {k:Int} {v:AV} {σ:St} {Q:PV} (h:0≤k∧k < 1000000) (e:xs[k.toNat]?=some v) (q:Q v σ):wIt xs k σ Q:=by
 cases k with
 | negSucc n=>exact absurd h.1 (by lia)
 | ofNat n =>
  have e:xs[n]?=some v:=e
  have b:Nat.blt n 1000000=true:=Nat.ble_eq_true_of_le (by have h2:((n:Nat):Int) < 1000000:=h.2; lia)
  show (bif Nat.blt n 1000000 then Ov (ziU xs n) (Jσ σ Q) else False)
  rw [b,qM,e]; exact q
noncomputable abbrev JB2 (op:Operator) (x:AV) (Q:PV):PV:=fun y σ=>wB op x y σ Q
noncomputable abbrev JB (op:Operator) (W:WX) (Q:PV):PV:=fun x σ=>W σ (JB2 op x Q)
noncomputable abbrev JN2 (σ:St) (Q:PV) (i:Int):Prop:=Q (.int (-i)) σ
noncomputable abbrev JN (Q:PV):PV:=fun x σ=>Iv x (JN2 σ Q)
noncomputable abbrev zq6 (σ:St) (Q:PV) (b:Bool):Prop:=Q (.bool (!b)) σ
noncomputable abbrev Jbn (Q:PV):PV:=fun x σ=>Ov (truth x) (zq6 σ Q)
noncomputable abbrev Jbo (Q:PV):PB:=fun b σ=>Q (.bool b) σ
noncomputable abbrev JC (C:zi) (f:Nat) (Q:PV):List AV→St→Prop:=fun vs σ=>Sk (WC C f vs σ Q)
noncomputable abbrev JO (Q:PV):Nat→St→Prop:=fun r σ=>Q (.obj r) σ
noncomputable abbrev Nv (v:AV) (P:Prop):Prop:=match v with | .none=>P | _=>False
noncomputable abbrev Jn3 (r:Nat) (Q:PV):PV:=fun v σ=>Nv v (Q (.obj r) σ)
noncomputable abbrev Jn2 (C:zi) (f:Nat) (vs:List AV) (Q:PV):Nat→St→Prop:=fun r σ=>Sk (WC C f (.obj r::vs) σ (Jn3 r Q))
noncomputable abbrev Jn1 (C:zi) (c f:Nat) (Q:PV):List AV→St→Prop:=fun vs σ=>Sk (NW σ (.inst c []) (Jn2 C f vs Q))
noncomputable abbrev JM3 (C:zi) (f r:Nat) (Q:PV):List AV→St→Prop:=fun vs σ=>Sk (WC C f (.obj r::vs) σ Q)
noncomputable abbrev JM2 (W:St→(List AV→St→Prop)→Prop) (C:zi) (σ:St) (Q:PV) (f r:Nat):Prop:=W σ (JM3 C f r Q)
noncomputable abbrev JM (n:Nat) (W:St→(List AV→St→Prop)→Prop) (C:zi) (Q:PV):PV:=fun x σ=>Sk (MW σ x n (JM2 W C σ Q))
noncomputable abbrev zp6 (x:AV) (Q:PV):PV:=fun y σ=>Sk (AP σ x y (Q .none))
noncomputable abbrev JAp (W:WX) (Q:PV):PV:=fun x σ=>Sk (LO σ x (W σ (zp6 x Q)))
noncomputable abbrev JP (Q:PV):PV:=fun x σ=>Sk (PP σ x Q)
noncomputable abbrev JG3 (z:AV) (σ:St) (Q:PV) (r:Option AV):Prop:=Option.rec (motive:=fun _=>Prop) (Q z σ) (Jσ σ Q) r
noncomputable abbrev JG2 (x:AV) (Q:PV):PV:=fun y σ=>Sk (RG σ x y (JG3 .none σ Q))
noncomputable abbrev JG (W:WX) (Q:PV):PV:=fun x σ=>Sk (isD σ x∧W σ (JG2 x Q))
noncomputable abbrev JH3 (x y:AV) (Q:PV):PV:=fun z σ=>Sk (RG σ x y (JG3 z σ Q))
noncomputable abbrev JH2 (W:WX) (x:AV) (Q:PV):PV:=fun y σ=>W σ (JH3 x y Q)
noncomputable abbrev JH (W V:WX) (Q:PV):PV:=fun x σ=>Sk (isD σ x∧W σ (JH2 V x Q))
noncomputable abbrev JAt (n:Nat) (Q:PV):PV:=fun x σ=>Sk (RA σ x n (Jσ σ Q))
noncomputable abbrev JI2 (scr:List Int) (x:AV) (Q:PV):PV:=fun y σ=>Sk (RI scr σ x y (Jσ σ Q))
noncomputable abbrev Tv1 (v:AV) (P:List AV→Prop) (fb:Prop):Prop:=match v with | .tup i=>P i | _=>fb
noncomputable abbrev JI3 (k:Int) (σ:St) (Q:PV) (xs:List AV):Prop:=wIt xs k σ Q
noncomputable abbrev JI (scr:List Int) (o:Option Int) (W:WX) (Q:PV):PV:=fun x σ=>Option.rec (motive:=fun _=>Prop) (W σ (JI2 scr x Q)) (fun k=>Tv1 x (JI3 k σ Q) (Sk (RI scr σ x (.int k) (Jσ σ Q)))) o
noncomputable abbrev zqV (σ:St) (Q:PV) (_:Nat) (xs:List AV):Prop:=Sk (NW σ (.list xs) (JO Q))
noncomputable abbrev JSl (Q:PV):PV:=fun x σ=>Sk (LW σ x (zqV σ Q))
noncomputable abbrev zp9 (k:Nat) (σ:St) (Q:PV) (s:List Nat):Prop:=Sk ((1≤k∧s.length≤1000)∧Q (.str (s.take (s.length - k))) σ)
noncomputable abbrev JSt (k:Nat) (Q:PV):PV:=fun x σ=>Sv x (zp9 k σ Q)
noncomputable abbrev zqx (k:Nat) (σ:St) (Q:PV) (s:List Nat):Prop:=Sk ((1≤k∧s.length≤1000)∧Q (.str (s.drop (s.length - k))) σ)
noncomputable abbrev JSf (k:Nat) (Q:PV):PV:=fun x σ=>Sv x (zqx k σ Q)
noncomputable abbrev JT (Q:PV):List AV→St→Prop:=fun vs σ=>Q (.tup vs) σ
noncomputable abbrev JLs (Q:PV):List AV→St→Prop:=fun vs σ=>Sk (NW σ (.list vs) (JO Q))
noncomputable abbrev JD2 (σ:St) (Q:PV) (o:AO):Prop:=Sk (NW σ o (JO Q))
noncomputable abbrev JD (Q:PV):List AV→St→Prop:=fun vs σ=>Ov (YV vs none []) (JD2 σ Q)
noncomputable abbrev zqa (σ:St) (Q:PV) (n:Nat):Prop:=Q (.int n) σ
noncomputable abbrev JLn (scr:List Int) (Q:PV):PV:=fun x σ=>Sk (LN scr σ x (zqa σ Q))
noncomputable abbrev zq8 (σ:St) (Q:PV) (_:Int):Prop:=Q (.bool false) σ
noncomputable abbrev JiB (Q:PV):PV:=fun x σ=>Iv x (zq8 σ Q)
noncomputable abbrev zqp (σ:St) (Q:PV) (_:Nat) (xs:List AV):Prop:=Q (.tup xs) σ
noncomputable abbrev Jtu (Q:PV):PV:=fun x σ=>Sk (LW σ x (zqp σ Q))
noncomputable abbrev Jx4 (σ:St) (Q:PV) (i j:Int):Prop:=Q (.int (if i < j then j else i)) σ
noncomputable abbrev Jx3 (y:AV) (σ:St) (Q:PV) (i:Int):Prop:=Iv y (Jx4 σ Q i)
noncomputable abbrev Jx2 (x:AV) (Q:PV):PV:=fun y σ=>Iv x (Jx3 y σ Q)
noncomputable abbrev Jx (W:WX) (Q:PV):PV:=fun x σ=>W σ (Jx2 x Q)
noncomputable abbrev Jm4 (σ:St) (Q:PV) (i j:Int):Prop:=Q (.int (if j < i then j else i)) σ
noncomputable abbrev Jm3 (y:AV) (σ:St) (Q:PV) (i:Int):Prop:=Iv y (Jm4 σ Q i)
noncomputable abbrev Jm2 (x:AV) (Q:PV):PV:=fun y σ=>Iv x (Jm3 y σ Q)
noncomputable abbrev Jm (W:WX) (Q:PV):PV:=fun x σ=>W σ (Jm2 x Q)
noncomputable abbrev JL2 (v:AV) (Q:List AV→St→Prop):List AV→St→Prop:=fun vs σ=>Q (v::vs) σ
noncomputable abbrev JL (W:St→(List AV→St→Prop)→Prop) (Q:List AV→St→Prop):PV:=fun v σ=>W σ (JL2 v Q)
noncomputable abbrev Ja2 (x:AV) (W:WX) (σ:St) (Q:PV) (b:Bool):Prop:=wBr b (W σ Q) (Q x σ)
noncomputable abbrev Ja (es:List X) (W:WX) (Q:PV):PV:=fun x σ=>List.rec (motive:=fun _=>Prop) (Q x σ) (fun _ _ _=>Ov (truth x) (Ja2 x W σ Q)) es
noncomputable abbrev Jo2 (x:AV) (W:WX) (σ:St) (Q:PV) (b:Bool):Prop:=wBr b (Q x σ) (W σ Q)
noncomputable abbrev Jo (es:List X) (W:WX) (Q:PV):PV:=fun x σ=>List.rec (motive:=fun _=>Prop) (Q x σ) (fun _ _ _=>Ov (truth x) (Jo2 x W σ Q)) es
noncomputable abbrev Jq2 (op:CmpOp) (x:AV) (Q:PB):PV:=fun y σ=>wQ op x y σ Q
noncomputable abbrev Jq (op:CmpOp) (W:WX) (Q:PB):PV:=fun x σ=>W σ (Jq2 op x Q)
noncomputable abbrev Jr3 (op:CmpOp) (y:AV) (V:WX) (Q:PB):PB:=fun t σ=>wBr t (V σ (Jq2 op y Q)) (Q false σ)
noncomputable abbrev Jr2 (op op':CmpOp) (x:AV) (V:WX) (Q:PB):PV:=fun y σ=>wQ op x y σ (Jr3 op' y V Q)
noncomputable abbrev Jr (op op':CmpOp) (W V:WX) (Q:PB):PV:=fun x σ=>W σ (Jr2 op op' x V Q)
noncomputable abbrev X1 (bs:List X) (P R:Prop):Prop:=match bs with | []=>P | _::_=>R
noncomputable abbrev O1 (ops:List CmpOp) (f:CmpOp→Prop):Prop:=match ops with | [op]=>f op | _=>False
noncomputable abbrev O2 (ops:List CmpOp) (f:CmpOp→CmpOp→Prop):Prop:=match ops with | [op,op']=>f op op' | _=>False
theorem O1.go {ops:List CmpOp} {f:CmpOp→Prop} (h:O1 ops f):∃ op,ops=[op]∧f op:=by
 match ops,h with
 | [op],h=>exact ⟨op,rfl,h⟩
 | [],h=>exact h.elim
 | _::_::_,h=>exact h.elim
theorem O2.go {ops:List CmpOp} {f:CmpOp→CmpOp→Prop} (h:O2 ops f):∃ op op',ops=[op,op']∧f op op':=by
 match ops,h with
 | [op,op'],h=>exact ⟨op,op',rfl,h⟩
 | [],h=>exact h.elim
 | [_],h=>exact h.elim
 | _::_::_::_,h=>exact h.elim
mutual
noncomputable def wE (scr:List Int) (C:zi) (ρ:Loc):X→St→PV→Prop
 | .none,σ,Q=>Q .none σ
 | .bool b,σ,Q=>Q (.bool b) σ
 | .int i,σ,Q=>Q (.int i) σ
 | .str s,σ,Q=>Q (.str s) σ
 | .loc i,σ,Q=>Ov (al i ρ) (Jσ σ Q)
 | .glb i,σ,Q=>Ov (KS i) (Jσ σ Q)
 | .band es,σ,Q=>zkb scr C ρ es σ Q
 | .bor es,σ,Q=>wOr scr C ρ es σ Q
 | .bin op a b,σ,Q=>wE scr C ρ a σ (JB op (wE scr C ρ b) Q)
 | .neg a,σ,Q=>wE scr C ρ a σ (JN Q)
 | .bnot a,σ,Q=>wE scr C ρ a σ (Jbn Q)
 | .cmp a ops bs,σ,Q=>wCm scr C ρ bs ops (wE scr C ρ a σ) (Jbo Q)
 | .call f args,σ,Q=>wL scr C ρ args σ (JC C f Q)
 | .new c args,σ,Q=>Option.rec (motive:=fun _=>Prop) (List.rec (motive:=fun _=>Prop) (Sk <| NW σ (.inst c []) (JO Q)) (fun _ _ _=>False) args)
  (fun f=>wL scr C ρ args σ (Jn1 C c f Q)) (yz c)
 | .meth o n args,σ,Q=>wE scr C ρ o σ (JM n (wL scr C ρ args) C Q)
 | .append o e,σ,Q=>wE scr C ρ o σ (JAp (wE scr C ρ e) Q)
 | .pop o,σ,Q=>wE scr C ρ o σ (JP Q)
 | .get1 o k,σ,Q=>wE scr C ρ o σ (JG (wE scr C ρ k) Q)
 | .get2 o k e,σ,Q=>wE scr C ρ o σ (JH (wE scr C ρ k) (wE scr C ρ e) Q)
 | .attr o n,σ,Q=>wE scr C ρ o σ (JAt n Q)
 | .idx o i,σ,Q=>wE scr C ρ o σ (JI scr (qp i) (wE scr C ρ i) Q)
 | .sliceAll o,σ,Q=>wE scr C ρ o σ (JSl Q)
 | .sliceTo o k,σ,Q=>wE scr C ρ o σ (JSt k Q)
 | .sliceFrom o k,σ,Q=>wE scr C ρ o σ (JSf k Q)
 | .tup es,σ,Q=>wL scr C ρ es σ (JT Q)
 | .lst es,σ,Q=>wL scr C ρ es σ (JLs Q)
 | .dic es,σ,Q=>wL scr C ρ es σ (JD Q)
 | .len e,σ,Q=>wE scr C ρ e σ (JLn scr Q)
 | .isB e,σ,Q=>wE scr C ρ e σ (JiB Q)
 | .range _,_,_=>False
 | .tuple o,σ,Q=>wE scr C ρ o σ (Jtu Q)
 | .max2 a b,σ,Q=>wE scr C ρ a σ (Jx (wE scr C ρ b) Q)
 | .min2 a b,σ,Q=>wE scr C ρ a σ (Jm (wE scr C ρ b) Q)
 | .bad,_,_=>False
noncomputable def wL (scr:List Int) (C:zi) (ρ:Loc):List X→St→(List AV→St→Prop)→Prop
 | [],σ,Q=>Q [] σ
 | e::es,σ,Q=>wE scr C ρ e σ (JL (wL scr C ρ es) Q)
noncomputable def zkb (scr:List Int) (C:zi) (ρ:Loc):List X→St→PV→Prop
 | [],_,_=>False
 | e::es,σ,Q=>wE scr C ρ e σ (Ja es (zkb scr C ρ es) Q)
noncomputable def wOr (scr:List Int) (C:zi) (ρ:Loc):List X→St→PV→Prop
 | [],_,_=>False
 | e::es,σ,Q=>wE scr C ρ e σ (Jo es (wOr scr C ρ es) Q)
noncomputable def wCm (scr:List Int) (C:zi) (ρ:Loc):List X→List CmpOp→(PV→Prop)→PB→Prop
 | [],_,_,_=>False
 | b::bs,ops,ka,Q=>X1 bs (O1 ops fun op=>ka (Jq op (wE scr C ρ b) Q)) (O2 ops fun op op'=>wC2 scr C ρ bs ka (Jr op op' (wE scr C ρ b)) Q)
noncomputable def wC2 (scr:List Int) (C:zi) (ρ:Loc):List X→(PV→Prop)→(WX→PB→PV)→PB→Prop
 | [],_,_,_=>False
 | c::bs,ka,J,Q=>X1 bs (ka (J (wE scr C ρ c) Q)) False
end
theorem Iv1.go {v:AV} {P:Int→Prop} {fb:Prop} (h:Iv1 v P fb):(∃ i,v=.int i∧P i)∨fb:=by
 cases v with
 | int i=>exact .inl ⟨i,rfl,h⟩
 | _=>exact .inr h
theorem Sv1.go {v:AV} {P:List Nat→Prop} {fb:Prop} (h:Sv1 v P fb):(∃ i,v=.str i∧P i)∨fb:=by
 cases v with
 | str i=>exact .inl ⟨i,rfl,h⟩
 | _=>exact .inr h
theorem II.go {x y:AV} {P:Int→Int→Prop} {fb:Prop} (h:II x y P fb):(∃ i j,x=.int i∧y=.int j∧P i j)∨fb:=by
 cases x with
 | int i=>exact (Iv1.go h).imp_left fun z1a=>by obtain ⟨j,e,q⟩:=z1a; exact ⟨i,j,rfl,e,q⟩
 | _=>exact .inr h
theorem IS.go {x y:AV} {P:Int→Int→Prop} {R:List Nat→List Nat→Prop} {fb:Prop} (h:IS x y P R fb):(∃ i j,x=.int i∧y=.int j∧P i j)∨(∃ i j,x=.str i∧y=.str j∧R i j)∨fb:=by
 cases x with
 | int i=>exact (Iv1.go h).imp (fun z2a=>by obtain ⟨j,e,q⟩:=z2a; exact ⟨i,j,rfl,e,q⟩) .inr
 | str i=>exact (Sv1.go h).elim (fun z3a=>by obtain ⟨j,e,q⟩:=z3a; exact .inr (.inl ⟨i,j,rfl,e,q⟩)) fun h=>.inr (.inr h)
 | _=>exact .inr (.inr h)
theorem zgj {op:Operator} {x y:AV} {σ:St} {Q:PV} (h:wB op x y σ Q):WB op x y σ Q:=by
 cases op with
 | Add=>exact (II.go h).elim (fun z4a=>by obtain ⟨_,_,a,b,q⟩:=z4a; exact a ▸ b ▸ znZ q) Sk.go
 | Sub=>exact (II.go h).elim (fun z5a=>by obtain ⟨_,_,a,b,q⟩:=z5a; exact a ▸ b ▸ znq q) Sk.go
 | BitAnd=>exact (II.go h).elim (fun z6a=>by obtain ⟨_,_,a,b,q⟩:=z6a; exact a ▸ b ▸ zoD q) Sk.go
 | _=>exact Sk.go h
theorem Z9 {op:CmpOp} {x y:AV} {σ:St} {Q:PB} (h:wQ op x y σ Q):WQ op x y σ Q:=by
 cases op with
 | Eq=>exact (IS.go h).elim (fun z7a=>by obtain ⟨_,_,a,b,q⟩:=z7a; exact a ▸ b ▸ zjT q) fun h=>h.elim (fun z8a=>by obtain ⟨_,_,a,b,q⟩:=z8a; exact a ▸ b ▸ znD q) Sk.go
 | NotEq=>exact (IS.go h).elim (fun z9a=>by obtain ⟨_,_,a,b,q⟩:=z9a; exact a ▸ b ▸ zjQ q) fun h=>h.elim (fun z0a=>by obtain ⟨_,_,a,b,q⟩:=z0a; exact a ▸ b ▸ zjK q) Sk.go
 | Lt=>exact (II.go h).elim (fun z1a=>by obtain ⟨_,_,a,b,q⟩:=z1a; exact a ▸ b ▸ zqY q) Sk.go
 | LtE=>exact (II.go h).elim (fun z2a=>by obtain ⟨_,_,a,b,q⟩:=z2a; exact a ▸ b ▸ zqU q) Sk.go
 | Gt=>exact (II.go h).elim (fun z3a=>by obtain ⟨_,_,a,b,q⟩:=z3a; exact a ▸ b ▸ zqF q) Sk.go
 | GtE=>exact (II.go h).elim (fun z4a=>by obtain ⟨_,_,a,b,q⟩:=z4a; exact a ▸ b ▸ zqy q) Sk.go
 | Is=>cases y with
  | none=>cases x with
   | none=>exact zo1 h
   | obj _=>exact znF h
   | tup _=>exact zom h
   | _=>exact Sk.go h
  | _=>exact Sk.go h
 | IsNot=>cases y with
  | none=>cases x with
   | none=>exact ziq h
   | obj _=>exact zjb h
   | tup _=>exact zi6 h
   | _=>exact Sk.go h
  | _=>exact Sk.go h
 | _=>exact Sk.go h
theorem znn {scr:List Int} {x:AV} {k:Int} {σ:St} {Q:PV} (h:Tv1 x (JI3 k σ Q) (Sk (RI scr σ x (.int k) (Jσ σ Q)))):RI scr σ x (.int k) (Jσ σ Q):=by
 cases x with
 | tup xs =>
  have h:wIt xs k σ Q:=h
  cases k with
  | negSucc _=>exact h.elim
  | ofNat n =>
   have h:(bif Nat.blt n 1000000 then Ov (ziU xs n) (Jσ σ Q) else False):=h
   cases b:Nat.blt n 1000000 with
   | false=>rw [b] at h; exact h.elim
   | true =>
    rw [b] at h
    obtain ⟨v,e,q⟩:=Ov.go h
    have:n < 1000000:=Nat.le_of_ble_eq_true b
    exact qP ⟨by show (0:Int)≤(n:Int); lia,by show ((n:Nat):Int) < 1000000; lia⟩ (qM ▸ e) q
 | _=>exact Sk.go h
theorem zgA {i:X} {k:Int} (h:qp i=some k):i=.int k:=by
 by_cases q:Nat.beq i.ctorIdx 2=true
 ·delta qp at h
  rw [dif_pos q] at h
  exact X.int.elim (motive_1:=fun e=>∀ q:e.ctorIdx=2,X.int.elim (motive_1:=fun _=>Option Int) e q some=some k→e=.int k) i (Nat.eq_of_beq_eq_true q) (fun j _ h=>congrArg X.int (Option.some.inj h)) (Nat.eq_of_beq_eq_true q) h
 ·delta qp at h
  rw [dif_neg q] at h; exact Mine.nn h
theorem NW.mono {σ o} {P P':Nat→St→Prop} (h:NW σ o P) (m:∀ r σ,P r σ→P' r σ):NW σ o P':=.mk fun r a b=>m _ _ (h.go r a b)
theorem WL.mono {scr C e ρ σ} {Q Q':List AV→St→Prop} (h:WL scr C e ρ σ Q) (m:∀ v σ,Q v σ→Q' v σ):WL scr C e ρ σ Q' :=
 .mk fun H r=>(h.go H r).mono fun v H' z5c=>by obtain ⟨σ',a,b⟩:=z5c; exact ⟨σ',a,m _ _ b⟩
theorem RG.mono {σ x k} {P P':Option AV→Prop} (h:RG σ x k P) (m:∀ v,P v→P' v):RG σ x k P':=.mk fun H r=>(h.go H r).mono m
theorem WQ.mono {op a b σ} {Q Q':Bool→St→Prop} (h:WQ op a b σ Q) (m:∀ v σ,Q v σ→Q' v σ):WQ op a b σ Q' :=
 .mk fun H r=>(h.go H r).mono fun v H' z6c=>by obtain ⟨σ',a,b⟩:=z6c; exact ⟨σ',a,m _ _ b⟩
theorem Br.mono {b:Bool} {P P' Q Q':Prop} (h:Br b P Q) (m:P→P') (m':Q→Q'):Br b P' Q':=⟨fun e=>m (h.1 e),fun e=>m' (h.2 e)⟩
mutual
theorem zp {scr:List Int} {C:zi} {ρ:Loc}:∀ (e:X) {σ:St} {Q:AV→St→Prop},wE scr C ρ e σ Q→WE scr C e ρ σ Q
 | .none,_,_,h=>zk3 h
 | .bool _,_,_,h=>zmc h
 | .int _,_,_,h=>zaB h
 | .str _,_,_,h=>zof h
 | .loc _,_,_,h=>by obtain ⟨_,e,q⟩:=Ov.go h; exact VM (V1 ▸ e) q
 | .glb _,_,_,h=>by obtain ⟨_,e,q⟩:=Ov.go h; exact zoy e q
 | .band es,_,_,h=>zdl es h
 | .bor es,_,_,h=>ze6 es h
 | .bin _ a b,_,_,h=>znw ((zp a h).mono fun _ _ h=>(zp b h).mono fun _ _ h=>zgj h)
 | .neg a,_,_,h=>zjI ((zp a h).mono fun _ _ h=>h.go)
 | .bnot a,_,_,h=>zmU ((zp a h).mono fun _ _ h=>Ov.wo h)
 | .cmp a _ bs,_,_,h=>zkT a (fun h=>zp a h) bs h
 | .call _ args,_,_,h=>zgX ((ZE args h).mono fun _ _ h=>h.go)
 | .new c args,σ,Q,h=>match e:yz c,args with
  | none,[]=>zfM e (Sk.go (by have h:Option.rec (motive:=fun _=>Prop) _ _ (yz c):=h; rw [e] at h; exact h))
  | none,_::_=>absurd h (by intro h; have h:Option.rec (motive:=fun _=>Prop) _ _ (yz c):=h; rw [e] at h; exact h)
  | some f,args=>znr e ((ZE args (Q:=Jn1 C c f Q) (by have h:Option.rec (motive:=fun _=>Prop) _ _ (yz c):=h; rw [e] at h; exact h)).mono fun _ _ h=>NW.mono (Sk.go h) fun _ _ h=>(Sk.go h).mono fun v _ h=>by cases v with | none=>exact ⟨rfl,h⟩ | _=>exact False.elim h)
 | .meth o _ args,_,_,h=>zfr ((zp o h).mono fun _ _ h=>by
   have h:=h.go
   unfold MW at h
   obtain ⟨r,c,fs,f,e,a,b,d,h⟩:=h; exact ⟨r,c,fs,f,e,a,b,d,(ZE args h).mono fun _ _ h=>h.go⟩)
 | .append o e,_,_,h=>zfJ ((zp o h).mono fun _ _ h=>by
   have h:=h.go
   unfold LO at h
   obtain ⟨r,xs,a,b,h⟩:=h; exact ⟨r,xs,a,b,(zp e h).mono fun _ _ h=>by
    have h:=h.go
    unfold AP at h
    obtain ⟨r',ys,c,d,f,h⟩:=h; have g:r'=r:=by { rw [a] at c; cases c; rfl }; exact ⟨ys,g ▸ d,f,g ▸ h⟩⟩)
 | .pop o,_,_,h=>zqj ((zp o h).mono fun _ _ h=>h.go)
 | .get1 o k,_,_,h=>zl5 ((zp o h).mono fun _ _ h=>have h:=h.go; ⟨h.1,(zp k h.2).mono fun _ _ h=>RG.mono h.go fun r h=>by cases r <;> exact h⟩)
 | .get2 o k e,_,_,h=>zka ((zp o h).mono fun _ _ h=>have h:=h.go; ⟨h.1,(zp k h.2).mono fun _ _ h=>(zp e h).mono fun _ _ h=>RG.mono h.go fun r h=>by cases r <;> exact h⟩)
 | .attr o _,_,_,h=>zlz ((zp o h).mono fun _ _ h=>h.go)
 | .idx o i,_,_,h=>zpo ((zp o h).mono fun x σ1 h=>by
   have h:Option.rec (motive:=fun _=>Prop) (wE scr C ρ i σ1 (JI2 scr x _)) (fun k=>Tv1 x (JI3 k σ1 _) (Sk (RI scr σ1 x (.int k) (Jσ σ1 _)))) (qp i):=h
   cases e:qp i with
   | none=>rw [e] at h; exact (zp i h).mono fun _ _ h=>h.go
   | some k=>rw [e] at h; rw [zgA e]; exact zaB (znn h))
 | .sliceAll o,_,_,h=>zbo ((zp o h).mono fun _ _ h=>by obtain ⟨r,xs,a,b,c,h⟩:=h.go.go; exact ⟨r,xs,a,b,c,h.go⟩)
 | .sliceTo o _,_,_,h=>zek ((zp o h).mono fun _ _ h=>by obtain ⟨s,a,h⟩:=h.go; exact ⟨s,a,h.go⟩)
 | .sliceFrom o _,_,_,h=>zaR ((zp o h).mono fun _ _ h=>by obtain ⟨s,a,h⟩:=h.go; exact ⟨s,a,h.go⟩)
 | .tup es,_,_,h=>zpM (ZE es h)
 | .lst es,_,_,h=>znX ((ZE es h).mono fun _ _ h=>h.go)
 | .dic es,_,_,h=>znu ((ZE es h).mono fun _ _ h=>(Ov.wo h).mono fun _ h=>h.go)
 | .len e,_,_,h=>zob ((zp e h).mono fun _ _ h=>h.go)
 | .isB e,_,_,h=>zoA ((zp e h).mono fun _ _ h=>h.go)
 | .range _,_,_,h=>h.elim
 | .tuple o,_,_,h=>zhY ((zp o h).mono fun _ _ h=>h.go.go)
 | .max2 a b,_,_,h=>znY ((zp a h).mono fun _ _ h=>(zp b h).mono fun _ _ h=>by obtain ⟨i,a,h⟩:=h.go; obtain ⟨j,b,h⟩:=h.go; exact ⟨i,j,a,b,h⟩)
 | .min2 a b,_,_,h=>zpd ((zp a h).mono fun _ _ h=>(zp b h).mono fun _ _ h=>by obtain ⟨i,a,h⟩:=h.go; obtain ⟨j,b,h⟩:=h.go; exact ⟨i,j,a,b,h⟩)
 | .bad,_,_,h=>h.elim
theorem ZE {scr:List Int} {C:zi} {ρ:Loc}:∀ (es:List X) {σ:St} {Q:List AV→St→Prop},wL scr C ρ es σ Q→WL scr C es ρ σ Q
 | [],_,_,h=>zgE h
 | e::es,_,_,h=>ZC ((zp e h).mono fun _ _ h=>ZE es h)
theorem zdl {scr:List Int} {C:zi} {ρ:Loc}:∀ (es:List X) {σ:St} {Q:AV→St→Prop},zkb scr C ρ es σ Q→WE scr C (.band es) ρ σ Q
 | [],_,_,h=>h.elim
 | [e],_,_,h=>zk7 (zp e h)
 | e::e'::es,_,_,h=>znQ ((zp e h).mono fun _ _ h=>(Ov.wo h).mono fun _ h=>(wBr.br h).mono (fun h=>zdl (e'::es) h) id)
theorem ze6 {scr:List Int} {C:zi} {ρ:Loc}:∀ (es:List X) {σ:St} {Q:AV→St→Prop},wOr scr C ρ es σ Q→WE scr C (.bor es) ρ σ Q
 | [],_,_,h=>h.elim
 | [e],_,_,h=>zpC (zp e h)
 | e::e'::es,_,_,h=>zqM ((zp e h).mono fun _ _ h=>(Ov.wo h).mono fun _ h=>(wBr.br h).mono id (fun h=>ze6 (e'::es) h))
theorem zkT {scr:List Int} {C:zi} {ρ:Loc} (a:X) {σ:St} (ha:∀ {k},wE scr C ρ a σ k→WE scr C a ρ σ k):∀ (bs:List X) {ops:List CmpOp} {Q:PV},wCm scr C ρ bs ops (wE scr C ρ a σ) (Jbo Q)→WE scr C (.cmp a ops bs) ρ σ Q
 | [],_,_,h=>h.elim
 | [b],_,_,h=>by obtain ⟨_,e,h⟩:=O1.go h; exact e ▸ zoL ((ha h).mono fun _ _ h=>(zp b h).mono fun _ _ h=>Z9 h)
 | [b,c],_,_,h=>by obtain ⟨_,_,e,h⟩:=O2.go h; exact e ▸ zkB ((ha h).mono fun _ _ h=>(zp b h).mono fun _ _ h=>(Z9 h).mono fun _ _ h=>(wBr.br h).mono (fun h=>(zp c h).mono fun _ _ h=>Z9 h) id)
 | _::_::_::_,_,_,h=>by obtain ⟨_,_,_,h⟩:=O2.go h; exact h.elim
end
noncomputable abbrev JNt (Q:PB):PB:=fun b σ=>Q (!b) σ
noncomputable abbrev zq0 (σ:St) (Q:PB) (b:Bool):Prop:=Q b σ
noncomputable abbrev JTr (Q:PB):PV:=fun x σ=>Ov (truth x) (zq0 σ Q)
noncomputable abbrev JTa (W:St→PB→Prop) (Q:PB):PB:=fun b σ=>wBr b (W σ Q) (Q false σ)
noncomputable abbrev JTo (W:St→PB→Prop) (Q:PB):PB:=fun b σ=>wBr b (Q true σ) (W σ Q)
mutual
noncomputable def wT (scr:List Int) (C:zi) (ρ:Loc):X→St→PB→Prop
 | .bnot e,σ,Q=>wT scr C ρ e σ (JNt Q)
 | .cmp a ops bs,σ,Q=>wCm scr C ρ bs ops (wE scr C ρ a σ) Q
 | .band es,σ,Q=>wTA scr C ρ es σ Q
 | .bor es,σ,Q=>wTO scr C ρ es σ Q
 | .call f args,σ,Q=>wE scr C ρ (.call f args) σ (JTr Q)
 | .loc i,σ,Q=>wE scr C ρ (.loc i) σ (JTr Q)
 | .bin op a b,σ,Q=>wE scr C ρ (.bin op a b) σ (JTr Q)
 | .isB e,σ,Q=>wE scr C ρ (.isB e) σ (JTr Q)
 | _,_,_=>False
noncomputable def wTA (scr:List Int) (C:zi) (ρ:Loc):List X→St→PB→Prop
 | [],σ,Q=>Q true σ
 | e::es,σ,Q=>wT scr C ρ e σ (JTa (wTA scr C ρ es) Q)
noncomputable def wTO (scr:List Int) (C:zi) (ρ:Loc):List X→St→PB→Prop
 | [],σ,Q=>Q false σ
 | e::es,σ,Q=>wT scr C ρ e σ (JTo (wTO scr C ρ es) Q)
end
theorem WT.mono {scr C e ρ σ} {Q Q':Bool→St→Prop} (h:WT scr C e ρ σ Q) (m:∀ v σ,Q v σ→Q' v σ):WT scr C e ρ σ Q' :=
 .mk fun H r=>(h.go H r).mono fun _ _ z7c=>by obtain ⟨σ',a,b⟩:=z7c; exact ⟨σ',a,m _ _ b⟩
theorem zkX {scr:List Int} {C:zi} {ρ:Loc} (a:X) {σ:St}:∀ (bs:List X) {ops:List CmpOp} {Q:PB},wCm scr C ρ bs ops (wE scr C ρ a σ) Q→WT scr C (.cmp a ops bs) ρ σ Q
 | [],_,_,h=>h.elim
 | [b],_,_,h=>by obtain ⟨_,e,h⟩:=O1.go h; exact e ▸ zcp ((zp a h).mono fun _ _ h=>(zp b h).mono fun _ _ h=>Z9 h)
 | [b,c],_,_,h=>by obtain ⟨_,_,e,h⟩:=O2.go h; exact e ▸ zlX ((zp a h).mono fun _ _ h=>(zp b h).mono fun _ _ h=>(Z9 h).mono fun _ _ h=>(wBr.br h).mono (fun h=>(zp c h).mono fun _ _ h=>Z9 h) id)
 | _::_::_::_,_,_,h=>by obtain ⟨_,_,_,h⟩:=O2.go h; exact h.elim
mutual
theorem qb {scr:List Int} {C:zi} {ρ:Loc}:∀ (e:X) {σ:St} {Q:Bool→St→Prop},wT scr C ρ e σ Q→WT scr C e ρ σ Q
 | .bnot e,_,_,h=>zjy (qb e h)
 | .cmp a _ bs,_,_,h=>zkX a bs h
 | .band es,_,_,h=>zeV es h
 | .bor es,_,_,h=>zeY es h
 | .call f args,_,_,h=>zki ((zp (.call f args) h).mono fun _ _ h=>Ov.wo h)
 | .loc i,_,_,h=>zgH ((zp (.loc i) h).mono fun _ _ h=>Ov.wo h)
 | .bin op a b,_,_,h=>zpH ((zp (.bin op a b) h).mono fun _ _ h=>Ov.wo h)
 | .isB e,_,_,h=>zpz ((zp (.isB e) h).mono fun _ _ h=>Ov.wo h)
 | .none,_,_,h=>h.elim
 | .bool _,_,_,h=>h.elim
 | .int _,_,_,h=>h.elim
 | .str _,_,_,h=>h.elim
 | .glb _,_,_,h=>h.elim
 | .neg _,_,_,h=>h.elim
 | .new _ _,_,_,h=>h.elim
 | .meth _ _ _,_,_,h=>h.elim
 | .append _ _,_,_,h=>h.elim
 | .pop _,_,_,h=>h.elim
 | .get1 _ _,_,_,h=>h.elim
 | .get2 _ _ _,_,_,h=>h.elim
 | .attr _ _,_,_,h=>h.elim
 | .idx _ _,_,_,h=>h.elim
 | .sliceAll _,_,_,h=>h.elim
 | .sliceTo _ _,_,_,h=>h.elim
 | .sliceFrom _ _,_,_,h=>h.elim
 | .tup _,_,_,h=>h.elim
 | .lst _,_,_,h=>h.elim
 | .dic _,_,_,h=>h.elim
 | .len _,_,_,h=>h.elim
 | .range _,_,_,h=>h.elim
 | .tuple _,_,_,h=>h.elim
 | .max2 _ _,_,_,h=>h.elim
 | .min2 _ _,_,_,h=>h.elim
 | .bad,_,_,h=>h.elim
theorem zeV {scr:List Int} {C:zi} {ρ:Loc}:∀ (es:List X) {σ:St} {Q:Bool→St→Prop},wTA scr C ρ es σ Q→WT scr C (.band es) ρ σ Q
 | [],_,_,h=>ze5 h
 | e::es,_,_,h=>qg ((qb e h).mono fun _ _ h=>(wBr.br h).mono (fun h=>zeV es h) id)
theorem zeY {scr:List Int} {C:zi} {ρ:Loc}:∀ (es:List X) {σ:St} {Q:Bool→St→Prop},wTO scr C ρ es σ Q→WT scr C (.bor es) ρ σ Q
 | [],_,_,h=>zo7 h
 | e::es,_,_,h=>zq3 ((qb e h).mono fun _ _ h=>(wBr.br h).mono id (fun h=>zeY es h))
end
theorem RA.mono {σ x n} {P P':AV→Prop} (h:RA σ x n P) (m:∀ v,P v→P' v):RA σ x n P':=.mk fun H r=>(h.go H r).mono m
theorem SA.mono {σ x n v} {P P':St→Prop} (h:SA σ x n v P) (m:∀ σ,P σ→P' σ):SA σ x n v P':=.mk fun H r=>(h.go H r).mono fun _ z8b=>by obtain ⟨σ',a,b⟩:=z8b; exact ⟨σ',a,m _ b⟩
theorem SI.mono {σ x k v} {P P':St→Prop} (h:SI σ x k v P) (m:∀ σ,P σ→P' σ):SI σ x k v P':=.mk fun H r=>(h.go H r).mono fun _ z9b=>by obtain ⟨σ',a,b⟩:=z9b; exact ⟨σ',a,m _ b⟩
theorem PU.mono {σ r ys} {P P':St→Prop} (h:PU σ r ys P) (m:∀ σ,P σ→P' σ):PU σ r ys P':=.mk fun H r=>by obtain ⟨σ',a,b⟩:=h.go H r; exact ⟨σ',a,m _ b⟩
theorem WB.mono {op a b σ} {Q Q':AV→St→Prop} (h:WB op a b σ Q) (m:∀ v σ,Q v σ→Q' v σ):WB op a b σ Q' :=
 .mk fun H r=>(h.go H r).mono fun _ _ z0c=>by obtain ⟨σ',a,b⟩:=z0c; exact ⟨σ',a,m _ _ b⟩
noncomputable def jw:List Nat→List AV→Loc→Option Loc
 | [],[],ρ=>some ρ
 | i::is,v::vs,ρ=>jw is vs (put i v ρ)
 | _,_,_=>none
theorem qj:∀ {is:List Nat} {vs:List AV} {ρ:Loc},jw is vs ρ=y8 is vs ρ
 | [],[],_=>rfl
 | i::is,v::vs,ρ=>(congrArg (jw is vs) Kp).trans (qj (ρ:=zf i v ρ))
 | [],_::_,_=>rfl
 | _::_,[],_=>rfl
noncomputable abbrev Jt (W:Loc→St→PF→Prop) (Q:PF):PF:=fun fl ρ σ=>Fl.rec (motive:=fun _=>Prop) (W ρ σ Q) (fun v=>Q (.ret v) ρ σ) fl
noncomputable abbrev JSa (n:Nat) (v:AV) (P:St→Prop):PV:=fun x σ=>Sk (SA σ x n v P)
noncomputable abbrev zqd (x v:AV) (P:St→Prop):PV:=fun y σ=>Sk (SI σ x y v P)
noncomputable abbrev JSi (W:WX) (v:AV) (P:St→Prop):PV:=fun x σ=>W σ (zqd x v P)
noncomputable abbrev zqk (σ:St) (K:Loc→St→Prop) (ρ:Loc):Prop:=K ρ σ
noncomputable abbrev JNm (is:List Nat) (ρ:Loc) (σ:St) (K:Loc→St→Prop) (vs:List AV):Prop:=Ov (jw is vs ρ) (zqk σ K)
noncomputable abbrev Je (ρ:Loc) (Q:PF):PV:=fun _ σ=>Q .next ρ σ
noncomputable abbrev zi3 (W:AV→St→(Loc→St→Prop)→Prop) (K:Loc→St→Prop):PV:=fun v σ=>W v σ K
noncomputable abbrev Jrt (ρ:Loc) (Q:PF):PV:=fun v σ=>Q (.ret v) ρ σ
noncomputable abbrev Jif (W V:Loc→St→PF→Prop) (ρ:Loc) (Q:PF):PB:=fun c σ=>wBr c (W ρ σ Q) (V ρ σ Q)
noncomputable abbrev zqC (σ:St) (P:St→Prop) (r:Nat) (_:List AV):Prop:=Sk (PU σ r [] P)
noncomputable abbrev Jdl (ρ:Loc) (Q:PF):PV:=fun x σ=>Sk (LW σ x (zqC σ (Q .next ρ)))
noncomputable abbrev JA5 (op:Operator) (i:Int) (σ:St) (K:PV) (j:Int):Prop:=wB op (.int i) (.int j) σ K
noncomputable abbrev JA4 (op:Operator) (y:AV) (σ:St) (K:PV) (i:Int):Prop:=Iv y (JA5 op i σ K)
noncomputable abbrev JA3 (op:Operator) (a:AV) (K:PV):PV:=fun y σ=>Iv a (JA4 op y σ K)
noncomputable abbrev JA6 (x:AV) (n:Nat) (ρ:Loc) (Q:PF):PV:=fun v σ=>Sk (SA σ x n v (Q .next ρ))
noncomputable abbrev JA2 (x:AV) (n:Nat) (op:Operator) (W:WX) (ρ:Loc) (σ:St) (Q:PF) (a:AV):Prop:=W σ (JA3 op a (JA6 x n ρ Q))
noncomputable abbrev JA1 (n:Nat) (op:Operator) (W:WX) (ρ:Loc) (Q:PF):PV:=fun x σ=>Sk (RA σ x n (JA2 x n op W ρ σ Q))
noncomputable abbrev JN4 (i:Nat) (ρ:Loc) (Q:PF):PV:=fun v σ=>Q .next (put i v ρ) σ
noncomputable abbrev JN1 (op:Operator) (W:WX) (i:Nat) (ρ:Loc) (σ:St) (Q:PF) (a:AV):Prop:=W σ (JA3 op a (JN4 i ρ Q))
@[irreducible] noncomputable def LP (scr:List Int) (C:zi) (s:S) (ρ:Loc) (σ:St) (Q:Fl→Loc→St→Prop):Prop:=WS scr C [s] ρ σ Q
theorem LP.mk {scr C s ρ σ Q} (h:WS scr C [s] ρ σ Q):LP scr C s ρ σ Q:=by unfold LP; exact h
theorem LP.go {scr C s ρ σ Q} (h:LP scr C s ρ σ Q):WS scr C [s] ρ σ Q:=by unfold LP at h; exact h
noncomputable def zhA (x:X):Bool:=if h:Nat.beq x.ctorIdx 11=true then X.cmp.elim (motive_1:=fun _=>Bool) x (Nat.eq_of_beq_eq_true h) (fun a _ _=>Nat.beq a.ctorIdx 12) else false
noncomputable def zfz (e:X):Bool:=if h:Nat.beq e.ctorIdx 6=true then X.band.elim (motive_1:=fun _=>Bool) e (Nat.eq_of_beq_eq_true h) (fun es=>match es with | []=>false | x::_=>Nat.beq x.ctorIdx 4 || zhA x) else false
noncomputable def zkE (e:X):Bool:=if q:Nat.beq e.ctorIdx 12=true then X.call.elim (motive_1:=fun _=>Bool) e (Nat.eq_of_beq_eq_true q) (fun f _=>Nat.beq f 143) else false
noncomputable def wTg (scr:List Int) (C:zi) (ρ:Loc):Tg→AV→St→(Loc→St→Prop)→Prop
 | .name i,v,σ,K=>K (put i v ρ) σ
 | .attr o n,v,σ,K=>wE scr C ρ o σ (JSa n v (K ρ))
 | .idx o i,v,σ,K=>wE scr C ρ o σ (JSi (wE scr C ρ i) v (K ρ))
 | .names is,v,σ,K=>Tv v (JNm is ρ σ K)
mutual
noncomputable def w1 (scr:List Int) (C:zi):S→Loc→St→PF→Prop
 | .expr e,ρ,σ,Q=>wE scr C ρ e σ (Je ρ Q)
 | .set t e,ρ,σ,Q=>Bool.rec (motive:=fun _=>Prop) (wE scr C ρ e σ (zi3 (wTg scr C ρ t) (Q .next))) (Sk <| LP scr C (.set t e) ρ σ Q) (zkE e)
 | .augA o n op e,ρ,σ,Q=>wE scr C ρ o σ (JA1 n op (wE scr C ρ e) ρ Q)
 | .augN i op e,ρ,σ,Q=>Ov (al i ρ) (JN1 op (wE scr C ρ e) i ρ σ Q)
 | .ite t b o,ρ,σ,Q=>Bool.rec (motive:=fun _=>Prop) (wT scr C ρ t σ (Jif (wS scr C b) (wS scr C o) ρ Q)) (Sk <| WT scr C t ρ σ (Jif (wS scr C b) (wS scr C o) ρ Q)) (zfz t)
 | .loop i e b,ρ,σ,Q=>Sk <| LP scr C (.loop i e b) ρ σ Q
 | .loopK i f ks b,ρ,σ,Q=>Sk <| LP scr C (.loopK i f ks b) ρ σ Q
 | .while t b,ρ,σ,Q=>Sk <| LP scr C (.while t b) ρ σ Q
 | .ret e,ρ,σ,Q=>wE scr C ρ e σ (Jrt ρ Q)
 | .delAll o,ρ,σ,Q=>wE scr C ρ o σ (Jdl ρ Q)
 | .bad,_,_,_=>False
noncomputable def wS (scr:List Int) (C:zi):List S→Loc→St→PF→Prop
 | [],ρ,σ,Q=>Q .next ρ σ
 | s::ss,ρ,σ,Q=>w1 scr C s ρ σ (Jt (wS scr C ss) Q)
end
theorem zoB {scr:List Int} {C:zi} {s:S} {ss:List S} {ρ:Loc} {σ:St} {Q:Fl→Loc→St→Prop} (q:WS scr C [s] ρ σ (Jt (WS scr C ss) Q)):WS scr C (s::ss) ρ σ Q:=by
 refine .mk fun H h=>?_
 obtain ⟨fl,ρ1,H1,h1,σ1,r,q⟩:=q.go H h
 refine ob (show (evS (JK scr) C s ρ H).bind _=some (fl,ρ1,H1) from h1) fun p hs h1=>?_
 obtain ⟨fl',ρ',H'⟩:=p
 refine (?_:∀ p:Fl×Loc×AH,_=some p→Rep σ1 p.2.2→Jt (WS scr C ss) Q p.1 p.2.1 σ1→_) _ h1 r q
 intro p h1 r q
 induction fl' using Fl.casesOn with
 | next=>cases Option.some.inj (show some (Fl.next,ρ',H')=some p from h1); exact yg ⟨.next,_,_,hs,WS.go q _ r⟩
 | ret v=>cases Option.some.inj (show some (Fl.ret v,ρ',H')=some p from h1); exact yg ⟨.ret v,_,_,hs,σ1,r,q⟩
theorem zf2 {scr:List Int} {C:zi} {ρ:Loc} {σ:St} {Q:PF}:∀ (t:Tg) (e:X),wE scr C ρ e σ (zi3 (wTg scr C ρ t) (Q .next))→WS scr C [.set t e] ρ σ Q
 | .name _,e,h=>zmh ((zp e h).mono fun _ _ h=>Vl (Kp ▸ h))
 | .attr o _,e,h=>zk1 ((zp e h).mono fun _ _ h=>(zp o h).mono fun _ _ h=>h.go.mono fun _ h=>Vl h)
 | .idx o i,e,h=>zpK ((zp e h).mono fun _ _ h=>(zp o h).mono fun _ _ h=>(zp i h).mono fun _ _ h=>h.go.mono fun _ h=>Vl h)
 | .names is,e,h=>ziG ((zp e h).mono fun _ _ h=>by obtain ⟨vs,e,h⟩:=h.go; exact ⟨vs,e,qj ▸ (Ov.wo h).mono fun _ h=>Vl h⟩)
theorem zmM {scr:List Int} {C:zi} {ρ:Loc} {σ:St} {Q:PF} {t:Tg} {e:X} (h:wE scr C ρ e σ (zi3 (wTg scr C ρ t) (Q .next))):LP scr C (.set t e) ρ σ Q:=.mk (zf2 t e h)
mutual
theorem zpJ {scr:List Int} {C:zi}:∀ (s:S) {ρ:Loc} {σ:St} {Q:Fl→Loc→St→Prop},w1 scr C s ρ σ Q→WS scr C [s] ρ σ Q
 | .expr e,_,_,_,h=>zlH ((zp e h).mono fun _ _ h=>Vl h)
 | .set t e,ρ,σ,Q,h=>by
   have h:Bool.rec (motive:=fun _=>Prop) (wE scr C ρ e σ (zi3 (wTg scr C ρ t) (Q .next))) (Sk <| LP scr C (.set t e) ρ σ Q) (zkE e):=h
   cases c:zkE e with
   | true=>rw [c] at h; exact LP.go (Sk.go h)
   | false=>rw [c] at h; exact zf2 t e h
 | .augA o _ _ e,_,_,_,h=>zmx ((zp o h).mono fun _ _ h=>h.go.mono fun _ h=>(zp e h).mono fun _ _ h=>by obtain ⟨i,a,h⟩:=Iv.go h; obtain ⟨j,b,h⟩:=Iv.go h; exact ⟨i,j,a,b,(zgj h).mono fun _ _ h=>h.go.mono fun _ h=>Vl h⟩)
 | .augN _ _ e,_,_,_,h=>by obtain ⟨_,q,h⟩:=Ov.go h; exact ze1 (V1 ▸ q) ((zp e h).mono fun _ _ h=>by obtain ⟨i,a,h⟩:=Iv.go h; obtain ⟨j,b,h⟩:=Iv.go h; exact ⟨i,j,a,b,(zgj h).mono fun _ _ h=>Vl (Kp ▸ h)⟩)
 | .ite t b o,ρ,σ,Q,h=>znt (WT.mono (Q:=Jif (wS scr C b) (wS scr C o) ρ Q) (by
   have h:Bool.rec (motive:=fun _=>Prop) (wT scr C ρ t σ (Jif (wS scr C b) (wS scr C o) ρ Q)) (Sk <| WT scr C t ρ σ (Jif (wS scr C b) (wS scr C o) ρ Q)) (zfz t):=h
   cases e:zfz t with
   | true=>rw [e] at h; exact Sk.go h
   | false=>rw [e] at h; exact qb t h) fun _ _ h=>(wBr.br h).mono (fun h=>(List.append_nil b).symm ▸ VI b h) (fun h=>(List.append_nil o).symm ▸ VI o h))
 | .loop _ _ _,_,_,_,h=>LP.go h.go
 | .loopK _ _ _ _,_,_,_,h=>LP.go h.go
 | .while _ _,_,_,_,h=>LP.go h.go
 | .ret e,_,_,_,h=>zn3 (zp e h)
 | .delAll o,_,_,_,h=>znJ ((zp o h).mono fun _ _ h=>by obtain ⟨r,xs,a,b,c,h⟩:=h.go.go; exact ⟨r,xs,a,b,c,h.go.mono fun _ h=>Vl h⟩)
 | .bad,_,_,_,h=>h.elim
theorem VI {scr:List Int} {C:zi}:∀ (ss:List S) {ρ:Loc} {σ:St} {Q:Fl→Loc→St→Prop},wS scr C ss ρ σ Q→WS scr C ss ρ σ Q
 | [],_,_,_,h=>Vl h
 | s::ss,_,_,Q,h=>zoB ((zpJ s h).mono fun fl _ _ h=>by cases fl with | next=>exact VI ss h | ret v=>exact h)
end
noncomputable def env (vs:List AV):Loc:=match vs with
 | []=>[]
 | [a]=>[(0,a)]
 | [a,b]=>[(0,a),(1,b)]
 | [a,b,c]=>[(0,a),(1,b),(2,c)]
 | [a,b,c,d]=>[(0,a),(1,b),(2,c),(3,d)]
 | a::b::c::d::r=>(0,a)::(1,b)::(2,c)::(3,d)::yt 4 r
theorem zg3 (vs:List AV):env vs=yt 0 vs:=by
 match vs with
 | []=>rfl
 | [_]=>rfl
 | [_,_]=>rfl
 | [_,_,_]=>rfl
 | [_,_,_,_]=>rfl
 | _::_::_::_::_::_=>rfl
noncomputable abbrev Jw (Q:PV):PF:=fun fl _ σ=>Fl.rec (motive:=fun _=>Prop) (Q .none σ) (fun v=>Q v σ) fl
theorem za {scr:List Int} {d f n:Nat} {vs:List AV} {σ:St} {b:List S} {Q:AV→St→Prop} (h:Jz f=some (n,b)) (hn:Nat.beq vs.length n=true)
  (q:wS scr (cf scr d) b (env vs) σ (Jw Q)):WC (cf scr (d + 1)) f vs σ Q :=
 zcx h hn ((VI _ (zg3 vs ▸ q)).mono fun fl _ _ h=>by unfold RV; cases fl <;> exact h)
theorem ym {scr:List Int} {d f n:Nat} {vs:List AV} {σ:St} {b:List S} {Q:AV→St→Prop} (h:Jz f=some (n,b)) (hn:Nat.beq vs.length n=true)
  (q:wS scr (cf scr d) b (env vs) σ (Jw (QD Q))):WC (cf scr (d + 1)) f vs σ Q :=
 zfL h hn ((VI _ (zg3 vs ▸ q)).mono fun fl _ _ h=>by unfold RV; cases fl <;> exact h)
theorem WF.mono {scr C i b k vs ρ σ} {Q Q':PF} (h:WF scr C i b k vs ρ σ Q) (m:∀ fl ρ σ,Q fl ρ σ→Q' fl ρ σ):WF scr C i b k vs ρ σ Q' :=
 .mk fun H r=>by obtain ⟨fl,ρ',H',a,σ',c,d⟩:=h.go H r; exact ⟨fl,ρ',H',a,σ',c,m _ _ _ d⟩
theorem zcW {scr C fl ρ σ} {Q:PF} (h:Q fl ρ σ):LE scr C [] Q fl ρ σ:=by
 unfold LE
 cases fl with
 | next=>exact Vl h
 | ret v=>exact h
section
variable {scr:List Int} {C:zi} {i:Nat} {b:List S} {ρ:Loc} {σ:St} {Q:PF} {k:Option (Nat×List AV)} {v:AV} {vs:List AV}
@[irreducible] noncomputable def LF (scr:List Int) (C:zi) (i:Nat) (b:List S) (ρ:Loc) (σ:St) (v:AV) (Q:PF):Prop:=∃ r xs,v=.obj r∧Rd σ r (.list xs)∧WF scr C i b (some (r,xs)) xs ρ σ Q
theorem zpA {r:Nat} {xs:List AV} (h:Rd σ r (.list xs)) (q:WF scr C i b (some (r,xs)) xs ρ σ Q):LF scr C i b ρ σ (.obj r) Q:=by unfold LF; exact ⟨r,xs,rfl,h,q⟩
noncomputable abbrev zqs (scr:List Int) (C:zi) (i:Nat) (b:List S) (ρ:Loc) (σ:St) (Q:PF) (xs:List AV):Prop:=Sk (WF scr C i b none xs ρ σ Q)
noncomputable abbrev JlT (scr:List Int) (C:zi) (i:Nat) (b:List S) (ρ:Loc) (Q:PF):PV:=fun v σ=>Tv v (zqs scr C i b ρ σ Q)
noncomputable abbrev JlL (scr:List Int) (C:zi) (i:Nat) (b:List S) (ρ:Loc) (Q:PF):PV:=fun v σ=>Sk (LF scr C i b ρ σ v Q)
noncomputable abbrev zqD (scr:List Int) (C:zi) (i:Nat) (b:List S) (ρ:Loc) (σ:St) (Q:PF) (n:Int):Prop:=Sk ((-1000≤n∧n≤1000)∧WF scr C i b none (yo n.toNat) ρ σ Q)
noncomputable abbrev JlR (scr:List Int) (C:zi) (i:Nat) (b:List S) (ρ:Loc) (Q:PF):PV:=fun v σ=>Iv v (zqD scr C i b ρ σ Q)
theorem yR {e:X} (he:∀ x,e≠.range x) (q:wE scr C ρ e σ (JlT scr C i b ρ Q)):LP scr C (.loop i e b) ρ σ Q :=
 .mk (zeC he ((zp e q).mono fun _ _ h=>by obtain ⟨xs,e,h⟩:=Tv.go h; exact ⟨xs,e,(Sk.go h).mono fun _ _ _ h=>zcW h⟩))
theorem YA {e:X} (he:∀ x,e≠.range x) (q:wE scr C ρ e σ (JlL scr C i b ρ Q)):LP scr C (.loop i e b) ρ σ Q :=
 .mk (zg0 he ((zp e q).mono fun _ _ h=>by
  have h:=Sk.go h
  unfold LF at h
  obtain ⟨r,xs,e,hr,h⟩:=h; exact ⟨r,xs,e,hr,h.mono fun _ _ _ h=>zcW h⟩))
theorem zcN {e:X} (q:wE scr C ρ e σ (JlR scr C i b ρ Q)):LP scr C (.loop i (.range e) b) ρ σ Q :=
 .mk (zeH ((zp e q).mono fun _ _ h=>by obtain ⟨n,e,h⟩:=Iv.go h; exact ⟨n,e,(Sk.go h).1,(Sk.go h).2.mono fun _ _ _ h=>zcW h⟩))
noncomputable abbrev JF (scr:List Int) (C:zi) (i:Nat) (b:List S) (k:Option (Nat×List AV)) (vs:List AV) (Q:PF):PF:=fun fl ρ σ=>Fl.rec (motive:=fun _=>Prop)
 (Option.rec (motive:=fun _=>Prop) (Sk (WF scr C i b k vs ρ σ Q)) (fun p=>Sk (Rd σ p.1 (.list p.2)∧WF scr C i b k vs ρ σ Q)) k) (fun v=>Q (.ret v) ρ σ) fl
theorem zk8 (q:wS scr C b (put i v ρ) σ (JF scr C i b k vs Q)):WF scr C i b k (v::vs) ρ σ Q :=
 zdb ((VI b (Kp ▸ q)).mono fun fl ρ1 σ1 h=>by
  unfold BE
  cases fl with
  | ret v=>exact h
  | next=>cases k with
   | none=>exact ⟨trivial,Sk.go h⟩
   | some p=>exact Sk.go h)
noncomputable abbrev JV (I:List AV→Loc→St→Prop) (k:Option (Nat×List AV)) (vs:List AV) (Q:PF):PF:=fun fl ρ σ=>Fl.rec (motive:=fun _=>Prop) (Sk (zee σ k∧I vs ρ σ)) (fun v=>Q (.ret v) ρ σ) fl
theorem zgu (I:List AV→Loc→St→Prop) (step:∀ v vs ρ σ,I (v::vs) ρ σ→wS scr C b (put i v ρ) σ (JV I k vs Q))
  (fin:∀ ρ σ,I [] ρ σ→Q .next ρ σ):∀ {vs ρ σ},I vs ρ σ→WF scr C i b k vs ρ σ Q :=
 zgF I (fun v vs ρ σ h=>(VI b (Kp ▸ step v vs ρ σ h)).mono fun fl _ _ h=>by
  cases fl with
  | ret v=>exact h
  | next=>exact Sk.go h) fin
noncomputable abbrev JW2 (scr:List Int) (C:zi) (n:Nat) (t:X) (b:List S) (Q:PF):PF:=fun fl ρ σ=>Fl.rec (motive:=fun _=>Prop) (Sk (WW scr C n t b ρ σ Q)) (fun v=>Q (.ret v) ρ σ) fl
noncomputable abbrev JWt (scr:List Int) (C:zi) (n:Nat) (t:X) (b:List S) (ρ:Loc) (Q:PF):PB:=fun c σ=>wBr c (wS scr C b ρ σ (JW2 scr C n t b Q)) (Q .next ρ σ)
theorem zfU {t:X} {n:Nat} (q:wT scr C ρ t σ (JWt scr C n t b ρ Q)):WW scr C (n + 1) t b ρ σ Q :=
 zhm ((qb t q).mono fun _ _ h=>(wBr.br h).mono (fun h=>(VI b h).mono fun fl _ _ h=>by
  unfold WT2
  cases fl with
  | ret v=>exact h
  | next=>exact Sk.go h) id)
theorem WW.mono {t:X} {n:Nat} {Q Q':PF} (h:WW scr C n t b ρ σ Q) (m:∀ fl ρ σ,Q fl ρ σ→Q' fl ρ σ):WW scr C n t b ρ σ Q':=by
 unfold WW at h ⊢
 exact fun H r=>by obtain ⟨fl,ρ',H',a,σ',c,d⟩:=h H r; exact ⟨fl,ρ',H',a,σ',c,m _ _ _ d⟩
theorem zc6 {t:X} (q:WW scr C 100 t b ρ σ Q):LP scr C (.while t b) ρ σ Q:=.mk (zgV (q.mono fun _ _ _ h=>zcW h))
end
noncomputable abbrev JPv (v:AV) (Q:PV) (σ:St):Prop:=Q v σ
theorem zqA {r:Nat} {a:AV} {σ:St} {Q:AV→St→Prop} (h:Rd σ r (.list [a])) (q:PU σ r [] (Q a)):PP σ (.obj r) Q:=znL h q
theorem zqJ {r:Nat} {a b:AV} {σ:St} {Q:AV→St→Prop} (h:Rd σ r (.list [a,b])) (q:PU σ r [a] (Q b)):PP σ (.obj r) Q:=zn1 h q
theorem zqN {r:Nat} {a b c:AV} {σ:St} {Q:AV→St→Prop} (h:Rd σ r (.list [a,b,c])) (q:PU σ r [a,b] (Q c)):PP σ (.obj r) Q:=zoJ h q
theorem zqO {r:Nat} {a b c d:AV} {σ:St} {Q:AV→St→Prop} (h:Rd σ r (.list [a,b,c,d])) (q:PU σ r [a,b,c] (Q d)):PP σ (.obj r) Q:=zoW h q
theorem znp {σ:St} {r:Nat} {o:AO} (h:al r (zoS σ)=some o):Rd σ r o:=by
 unfold Rd own; rw [W7,← V1,h]; rfl
theorem zeZ {p:Prop} [Decidable p] {P R:Prop} (h:p) (q:P):wBr (decide p) P R:=by rw [decide_eq_true h]; exact q
theorem zjC {p:Prop} [Decidable p] {P R:Prop} (h:¬ p) (q:R):wBr (decide p) P R:=by rw [decide_eq_false h]; exact q
theorem znM {p:Prop} [Decidable p] {P R:Prop} (h:¬ p) (q:P):wBr (!decide p) P R:=by rw [decide_eq_false h]; exact q
theorem zpj {p:Prop} [Decidable p] {P R:Prop} (h:p) (q:R):wBr (!decide p) P R:=by rw [decide_eq_true h]; exact q
theorem zrv {b:Bool} {P R:Prop} (h:b=true) (q:P):wBr b P R:=by subst h; exact q
theorem zrC {b:Bool} {P R:Prop} (h:b=false) (q:R):wBr b P R:=by subst h; exact q
theorem Zn {z:AV} {σ:St} {Q:PV} {r:Option AV} (q:Q (r.getD z) σ):JG3 z σ Q r:=by cases r <;> exact q
theorem Kh {i:Nat} {v:AV} {ρ:Loc}:al i (put i v ρ)=some v:=by rw [V1,Kp,zr,if_pos rfl]
theorem yr {i j:Nat} {v w:AV} {ρ:Loc} (h:Nat.beq j i=false) (e:al i ρ=some v):al i (put j w ρ)=some v:=by
 rw [V1] at e ⊢; rw [Kp,zr,if_neg (fun z=>by rw [z,Nat.beq_refl] at h; cases h)]; exact e
set_option hygiene false
set_option compiler.extract_closed false
local macro_rules | `(tactic| simp_all_arith!) => `(tactic| with_reducible first | assumption | (apply zb; first | assumption | (apply zb; first | assumption | (apply zb; first | assumption | (apply zb; first | assumption | (apply zb; first | assumption | (apply zb; first | assumption | (apply zb; first | assumption | (apply zb; first | assumption | (apply zb; first | assumption | (apply zb; assumption)))))))))))
local macro_rules | `(tactic| simp_all_arith) => `(tactic| first | simp_all_arith! | (apply zF; (constructor); simp_all_arith) | fail)
local macro_rules | `(tactic| sizeOf_list_dec) => `(tactic| first | exact yw | (refine Jp ?_; sizeOf_list_dec) | (refine zl ?_ ?_; (simp_all_arith); sizeOf_list_dec) | fail)
local macro_rules | `(tactic| constructor) => `(tactic| with_reducible first | assumption | (refine Ne.symm ?_; assumption) | (apply zI; (assumption); simp_all_arith) | (refine Ne.symm ?_; apply zI; (assumption); simp_all_arith) | (apply zz; simp_all_arith!) | (refine Ne.symm ?_; apply zz; simp_all_arith!) | fail)
local macro_rules | `(tactic| right) => `(tactic| first | assumption | (refine yy ?_; first | assumption | (apply Dl.ge; assumption)) | (refine YU ?_ ?_; (assumption); right) | (refine zo ?_ ?_; (constructor); right) | fail)
local macro_rules | `(tactic| split) => `(tactic| with_reducible first | (apply zgs; assumption) | (refine zjU ?_; first | assumption | (apply Dl.ge; assumption)) | (refine zkH ?_; split) | fail)
local macro_rules | `(tactic| left) => `(tactic| first | exact znp rfl | (refine zu ?_; right) | fail)
local macro_rules | `(tactic| simp_arith!) => `(tactic| first | assumption | omega | (simp only [List.length_cons, List.length_nil, List.length_append, List.length_map, big]; omega))
local macro_rules | `(tactic| simp_arith) => `(tactic| first
  | refine Sk.mk ?_
  | (refine zeZ ?_ ?_; first | assumption | omega) | (refine zjC ?_ ?_; first | assumption | omega) | (refine znM ?_ ?_; first | assumption | omega) | (refine zpj ?_ ?_; first | assumption | omega)
  | (show WC ..; infer_instance)
  | (show RA ..; apply Kx; (left); (rfl); rfl)
  | (show RI ..; first | (apply qP; (first | assumption | omega | decide | (simp only [List.length_cons, List.length_nil]; decide)); first | assumption | rfl) | (apply Ww; (exact znp rfl); (first | assumption | omega | decide); first | assumption | rfl) | (apply zn; (left); rfl) | (apply Ww; (left); (first | assumption | omega | decide); first | assumption | rfl))
  | (show SA ..; (first | refine zhb ?_ | refine zmC ?_ | refine zku ?_ | refine zm5 ?_ | refine zfu ?_ | refine zif ?_ | (apply ziZ; (rfl); (assumption); (rfl); (exact Nat.le_of_ble_eq_true rfl)) | (apply zj7; (right); (rfl); (exact Nat.le_of_ble_eq_true rfl))); try dsimp only)
  | (show SI ..; (first | refine zh8 ?_ | (refine zha ?_ ?_ ?_; (rfl); assumption) | (refine zpl ?_ ?_ ?_; (rfl); assumption) | (refine zex ?_ ?_ ?_; (rfl); assumption) | (refine zep ?_ ?_ ?_; (rfl); assumption) | (refine zlO ?_ ?_ ?_; (rfl); assumption) | (refine xX ?_ ?_ ?_; (rfl); assumption) | (refine zd7 ?_ ?_ ?_; (rfl); assumption)); try dsimp only)
  | (show PU ..; (first | refine zid ?_ | refine zdJ ?_ | refine zeL ?_ | refine zdQ ?_ | refine zhW ?_ | refine zel ?_ | refine zgf ?_ | (apply zhs; (rfl); assumption) | (refine znT ?_ ?_; split)); try dsimp only)
  | (show NW ..; refine NW.mk fun _ _ _ => ?_; try dsimp only)
  | (show MW ..; apply zo6; (left); (rfl); rfl)
  | (show WB ..; first | (refine zfj ?_ ?_; decide) | (refine Y5 ?_ ?_; decide) | (refine zog ?_ ?_; exact .inl (by decide)))
  | (show WQ ..; first | refine zoz ?_ | refine zlZ ?_)
  | (show LN ..; first | (refine zpi ?_ ?_; simp_arith!) | (apply zfW; (left); simp_arith!))
  | (show PP ..; first | (apply zqA; left) | (apply zqJ; left) | (apply zqN; left) | (apply zqO; left))
  | (show LW ..; apply zpw; (left); simp_arith!)
  | (show LF ..; apply zpA; left)
  | (show LO ..; apply zoE; left)
  | (show AP ..; apply zpf; (left); simp_arith!)
  | (show WF ..; first | refine zk8 ?_ | refine zjB ?_)
  | (show LP _ _ (.while ..) ..; refine zc6 ?_)
  | (show WW ..; refine zfU ?_)
  | (show WT ..; refine qb _ ?_)
  | (show isD .. ∧ _; refine ⟨?_, ?_⟩; first | (apply zfs; left) | exact zhq rfl)
  | (show Rd .. ∧ _; refine ⟨?_, ?_⟩; left)
  | (show _ ∧ _; refine ⟨?_, ?_⟩; first | assumption | decide)
  | fail)
local macro_rules | `(tactic| symm) => `(tactic| repeat' simp_arith)
section
variable {scr:List Int} {d:Nat} {σ:St} {Q:AV→St→Prop}
@[irreducible] noncomputable def Kd (rows:List AV) (k:Int) (row:List AV):Prop:=0≤k∧k < rows.length∧rows.length≤1000∧rows[k.toNat]?=some (.tup row)
theorem Kd.mk {rows k row} (h:0≤k∧k < (rows.length:Int)∧rows.length≤1000∧rows[k.toNat]?=some (.tup row)):Kd rows k row:=by unfold Kd; exact h
theorem Kd.go {rows k row} (h:Kd rows k row):0≤k∧k < (rows.length:Int)∧rows.length≤1000∧rows[k.toNat]?=some (.tup row):=by unfold Kd at h; exact h
theorem zlo {n:Nat} (h:n≤1000):n≤big:=Nat.le_trans h (by decide)
theorem zjF {k:Int} {row:List AV} (h:Kd σ.rows k row) (q:Q (.tup row) σ):WC (cf scr (d + 1)) 3 [.obj 1,.int k] σ Q:=by
 obtain ⟨h1,h2,h3,h4⟩:=h.go
 have hb:=zlo h3
 refine za rfl rfl ?_
 symm
 exact q
local macro_rules | `(tactic| infer_instance)=>`(tactic| (show WC _ 3 ..; (apply zjF; (assumption))))
variable {k s:Int} {rest row:List AV}
theorem Yd (h:Kd σ.rows k (.int s::rest)) (q:Q (.int s) σ):WC (cf scr (d + 2)) 18 [.obj 1,.int k] σ Q:=by
 refine za rfl rfl ?_
 symm
 exact q
theorem zaT {x:AV} (q:Q (.tup [x]) σ):WC (cf scr (d + 1)) 5 [.tup [.int 4,x]] σ Q:=by
 refine za rfl rfl ?_
 symm
 exact q
theorem xF {x:AV} (q:Q (.tup []) σ):WC (cf scr (d + 1)) 5 [.tup [.int 6,x]] σ Q:=by
 refine za rfl rfl ?_
 symm
 exact q
theorem zad {x:AV} (q:Q (.tup []) σ):WC (cf scr (d + 1)) 5 [.tup [.int 7,x]] σ Q:=by
 refine za rfl rfl ?_
 symm
 exact q
theorem zaN (q:Q (.int 1) σ):WC (cf scr (d + 1)) 6 [.int 4] σ Q:=by
 refine za rfl rfl ?_
 symm
 exact q
theorem xz (q:Q (.int 0) σ):WC (cf scr (d + 1)) 6 [.int 6] σ Q:=by
 refine za rfl rfl ?_
 symm
 exact q
theorem zaS (q:Q (.int 0) σ):WC (cf scr (d + 1)) 6 [.int 7] σ Q:=by
 refine za rfl rfl ?_
 symm
 exact q
theorem za2 (h:s=4∨s=6∨s=7) (q:Q (.int 2) σ):WC (cf scr (d + 1)) 7 [.int s] σ Q:=by
 refine za rfl rfl ?_
 symm
 exact q
theorem zjH (h:Kd σ.rows k (.int s::rest)) (h0:k≠0) (h1:k≠14) (hs:s≤4∨s=6∨s=7) (q:Q (.bool true) σ):WC (cf scr (d + 2)) 11 [.obj 1,.int k] σ Q:=by
 refine za rfl rfl ?_
 symm
 by_cases h:s≤4
 ·refine zeZ h ?_; rw [decide_eq_true h]
  exact q
 ·by_cases h:s=6
  ·subst h; symm
   exact q
  ·have:s=7:=by lia
   subst this; symm
   exact q
local macro_rules | `(tactic| infer_instance)=>`(tactic| (show WC _ 18 ..; (apply Yd; (assumption))))
local macro_rules | `(tactic| infer_instance)=>`(tactic| (show WC _ 5 ..; first | refine zaT ?_ | refine xF ?_ | refine zad ?_))
local macro_rules | `(tactic| infer_instance)=>`(tactic| (show WC _ 6 ..; first | refine zaN ?_ | refine xz ?_ | refine zaS ?_))
local macro_rules | `(tactic| infer_instance)=>`(tactic| (show WC _ 7 ..; (apply za2; (simp_arith!))))
local macro_rules | `(tactic| infer_instance)=>`(tactic| (show WC _ 11 ..; (apply zjH; (assumption); (assumption); (assumption); (assumption))))
theorem zc0 {x:AV} (h:Kd σ.rows k [.int 4,x]) (q:Q x σ):WC (cf scr (d + 2)) 19 [.obj 1,.int k] σ Q:=by
 refine za rfl rfl ?_
 symm
 exact q
theorem zj5 (h:Kd σ.rows k [.int 2,.int 71,row.head!]) (q:Q row.head! σ):WC (cf scr (d + 2)) 21 [.obj 1,.int k] σ Q:=by
 refine za rfl rfl ?_
 symm
 exact q
noncomputable def Kz (k s:Int):Bool:=decide ((1≤k∧k≤11)∨s=3)
theorem J8 (h:Kd σ.rows k (.int s::rest)) (q:Q (.bool (Kz k s)) σ):WC (cf scr (d + 2)) 22 [.obj 1,.int k] σ Q:=by
 refine za rfl rfl ?_
 by_cases h1:1≤k∧k≤11
 ·have e:Kz k s=true:=decide_eq_true (.inl h1)
  rw [e] at q
  symm
  exact q
 ·have e:Kz k s=decide (s=3):=by unfold Kz; congr 1; simp [h1]
  rw [e] at q
  by_cases h2:1≤k
  all_goals
   symm
   exact q
theorem zfi {xs:List AV} {i:Int} {v x:AV} (h:0≤i∧i < 100∧i < xs.length) (hb:xs.length≤big) (e:xs[i.toNat]?=some v) (q:Q v σ):WC (cf scr (d + 1)) 28 [.tup xs,.int i,x] σ Q:=by
 refine za rfl rfl ?_
 symm
 exact q
theorem zaf {j:Int} (h:Kd σ.rows j (.int s::rest)) (h0:j≠0) (h1:j≠14) (hs:s≤4∨s=6∨s=7) (q:Q .none σ):WC (cf scr (d + 3)) 8 [.obj 1,.tup [.int 4,.int j]] σ Q:=by
 refine za rfl rfl ?_
 symm
 refine yR (noR rfl) ?_
 symm
 exact q
theorem za5 {j:Int} (h:0≤j) (q:Q .none σ):WC (cf scr (d + 3)) 8 [.obj 1,.tup [.int 6,.int j]] σ Q:=by
 refine za rfl rfl ?_
 symm
 refine yR (noR rfl) ?_
 symm
 exact q
theorem zah {j:Int} (h:0≤j) (q:Q .none σ):WC (cf scr (d + 3)) 8 [.obj 1,.tup [.int 7,.int j]] σ Q:=by
 refine za rfl rfl ?_
 symm
 refine yR (noR rfl) ?_
 symm
 exact q
local macro_rules | `(tactic| infer_instance)=>`(tactic| (show WC _ 19 ..; (apply zc0; (assumption))))
local macro_rules | `(tactic| infer_instance)=>`(tactic| (show WC _ 22 ..; (apply J8; (assumption))))
local macro_rules | `(tactic| infer_instance)=>`(tactic| (show WC _ 8 ..; first | (apply zaf; (assumption); (assumption); (assumption); (assumption)) | (apply za5; (assumption)) | (apply zah; (assumption))))
theorem jj {xs:List AV} (h:xs.all (yi 6)=true):kk (.tup xs)=some .tup:=by show (match xs.all (yi 6) with | true=>some KK.tup | false=>none)=_; rw [h]
theorem zfh {k:Int} (hk:row.all (yi 6)=true) (e:ze (.tup row) σ.index=some (.int k)) (h0:0≤k) (q:Q (.int k) σ):WC (cf scr (d + 4)) 4 [.obj 1,.tup row] σ Q:=by
 refine za rfl rfl ?_
 symm
 refine zk zgD (zt (jj hk)) ?_
 rw [e]
 symm
 exact q
end
local macro_rules | `(tactic| infer_instance) => `(tactic| (show WC _ 3 ..; (apply zjF; (assumption))))
local macro_rules | `(tactic| infer_instance) => `(tactic| (show WC _ 18 ..; (apply Yd; (assumption))))
local macro_rules | `(tactic| infer_instance) => `(tactic| (show WC _ 5 ..; first | refine zaT ?_ | refine xF ?_ | refine zad ?_))
local macro_rules | `(tactic| infer_instance) => `(tactic| (show WC _ 6 ..; first | refine zaN ?_ | refine xz ?_ | refine zaS ?_))
local macro_rules | `(tactic| infer_instance) => `(tactic| (show WC _ 7 ..; (apply za2; (simp_arith!))))
local macro_rules | `(tactic| infer_instance) => `(tactic| (show WC _ 11 ..; (apply zjH; (assumption); (assumption); (assumption); (assumption))))
local macro_rules | `(tactic| infer_instance) => `(tactic| (show WC _ 19 ..; (apply zc0; (assumption))))
local macro_rules | `(tactic| infer_instance) => `(tactic| (show WC _ 22 ..; (apply J8; (assumption))))
local macro_rules | `(tactic| infer_instance) => `(tactic| (show WC _ 8 ..; first | (apply zaf; (assumption); (assumption); (assumption); (assumption)) | (apply za5; (assumption)) | (apply zah; (assumption))))
local macro_rules | `(tactic| infer_instance) => `(tactic| (show WC _ 4 ..; (apply zfh; (assumption); (assumption); (assumption))))
section
variable {scr:List Int} {d:Nat} {σ:St} {Q:AV→St→Prop} {k s:Int} {rest row:List AV}
theorem zlA {j dj oj:Int} (h:Kd σ.rows j (.int s::rest)) (h0:j≠0) (h1:j≠14) (hs:s≤4∨s=6∨s=7) (e:ze (.tup [.int 4,.int j]) σ.index=none)
  (hd:σ.depths[j.toNat]?=some (.int dj)) (ho:σ.opens[j.toNat]?=some (.int oj)) (hdj:1≤dj∧dj≤20)
  (lr:σ.rows.length < big) (li:σ.index.length < big) (ld:σ.depths.length < big) (lo:σ.opens.length < big)
  (q:Q (.int σ.rows.length) { σ with rows:=σ.rows++[.tup [.int 4,.int j]],index:=zB (.tup [.int 4,.int j]) (.int σ.rows.length) σ.index,depths:=σ.depths++[.int (dj + 1)],opens:=σ.opens++[.int (if oj=1 then 1 else 0)] }) :
  WC (cf scr (d + 4)) 4 [.obj 1,.tup [.int 4,.int j]] σ Q:=by
 obtain ⟨j1,j2,j3,-⟩:=h.go
 have lr':σ.rows.length≤big:=Nat.le_of_lt lr
 have hj:0≤j∧j < 1000000:=by omega
 refine za rfl rfl ?_
 symm
 refine zk zgD (zt (jj rfl)) ?_
 rw [e]
 symm
 refine yR (noR rfl) ?_
 symm
 by_cases ho1:oj=1
 ·rw [if_pos ho1] at q
  symm
  exact q
 ·rw [if_neg ho1] at q
  symm
  exact q
theorem zkr {j:Int} (h0:0≤j) (e:ze (.tup [.int 6,.int j]) σ.index=none)
  (lr:σ.rows.length < big) (li:σ.index.length < big) (ld:σ.depths.length < big) (lo:σ.opens.length < big)
  (q:Q (.int σ.rows.length) { σ with rows:=σ.rows++[.tup [.int 6,.int j]],index:=zB (.tup [.int 6,.int j]) (.int σ.rows.length) σ.index,depths:=σ.depths++[.int 1],opens:=σ.opens++[.int 1] }) :
  WC (cf scr (d + 4)) 4 [.obj 1,.tup [.int 6,.int j]] σ Q:=by
 have lr':σ.rows.length≤big:=Nat.le_of_lt lr
 refine za rfl rfl ?_
 symm
 refine zk zgD (zt (jj rfl)) ?_
 rw [e]
 symm
 refine yR (noR rfl) ?_
 symm
 exact q
theorem zmG {j:Int} (h0:0≤j) (e:ze (.tup [.int 7,.int j]) σ.index=none)
  (lr:σ.rows.length < big) (li:σ.index.length < big) (ld:σ.depths.length < big) (lo:σ.opens.length < big)
  (q:Q (.int σ.rows.length) { σ with rows:=σ.rows++[.tup [.int 7,.int j]],index:=zB (.tup [.int 7,.int j]) (.int σ.rows.length) σ.index,depths:=σ.depths++[.int 1],opens:=σ.opens++[.int 1] }) :
  WC (cf scr (d + 4)) 4 [.obj 1,.tup [.int 7,.int j]] σ Q:=by
 have lr':σ.rows.length≤big:=Nat.le_of_lt lr
 refine za rfl rfl ?_
 symm
 refine zk zgD (zt (jj rfl)) ?_
 rw [e]
 symm
 refine yR (noR rfl) ?_
 symm
 exact q
end
inductive Ty where
 | base (i:Nat) | var (i:Nat) | mvar (i:Nat) | arr (t:Ty)
 deriving DecidableEq
noncomputable def yS:List (List AV):=(List.range 16).map (fun i=>[.int 1,.int (i:Int)])++[[.int 2,.int 64,.tup []],[.int 2,.int 65,.tup []],[.int 2,.int 66,.tup []],[.int 2,.int 67,.tup []],[.int 2,.int 68,.tup []],[.int 3,.int 69,.tup []],[.int 3,.int 70,.tup []],[.int 3,.int 72,.tup []],[.int 2,.int 71,.tup [.int 16,.int 8]]]
noncomputable def yL:List Ty:=(List.range 25).map .base
noncomputable def zm:List Ty:=[.base 17,.base 16,.base 12,.base 18,.base 20,.base 13,.base 7,.base 8,.base 4,.base 3,.base 1,.base 2,.base 5,.base 6,.base 21,.base 9,.base 11,.base 22,.arr (.base 16),.arr (.base 8),.base 10,.base 23]
noncomputable def Un:List Ty:=yL++[.var 0,.var 1,.mvar 0,.mvar 1,.arr (.var 0)]++zm.map .arr
noncomputable def zn5:Nat→List Nat
 | 1=>[98,111,111,108] | 2=>[99,104,97,114] | 3=>[105,49] | 4=>[117,49] | 5=>[105,50] | 6=>[117,50] | 7=>[105,52] | 8=>[117,52] | 9=>[105,56] | 10=>[117,56] | 11=>[110,105,110,116]
 | 12=>[111] | 13=>[116] | 16=>[97] | 17=>[98] | 18=>[99] | 19=>[100] | 20=>[105] | 21=>[101] | 22=>[115] | 23=>[115,50] | _=>[]
noncomputable def nm:Ty→List Nat
 | .base i=>zn5 i
 | .arr t=>nm t++[91,93]
 | _=>[]
noncomputable def dep:Ty→Int
 | .base i=>if i=24 then 2 else 1
 | .arr t=>dep t + 1
 | _=>1
noncomputable def opn:Ty→Int
 | .base _=>0
 | .arr t=>opn t
 | _=>1
noncomputable def ya (R:List Ty):Ty→List AV
 | .base i=>(yS[i]?).getD []
 | .var i=>[.int 6,.int i]
 | .mvar i=>[.int 7,.int i]
 | .arr t=>[.int 4,.int (R.idxOf t:Int)]
noncomputable def kx (R:List Ty) (t:Ty):Int:=(R.idxOf t:Int)
structure Wf (R:List Ty):Prop where
 nodup:R.Nodup
 sub:∀ t∈R,t∈Un
 pre:∃ E,R=yL++E
 clo:∀ t,.arr t∈R→t∈R
structure KT (R:List Ty) (σ:St):Prop where
 wf:Wf R
 rows:σ.rows=R.map fun t=>.tup (ya R t)
 index:σ.index=R.map fun t=>(.tup (ya R t),.int (kx R t))
 depths:σ.depths=R.map fun t=>.int (dep t)
 opens:σ.opens=R.map fun t=>.int (opn t)
theorem KT.of {R:List Ty} {σ σ':St} (h:KT R σ) (a:σ'.rows=σ.rows) (b:σ'.index=σ.index) (c:σ'.depths=σ.depths) (d:σ'.opens=σ.opens):KT R σ' :=
 ⟨h.wf,a.trans h.rows,b.trans h.index,c.trans h.depths,d.trans h.opens⟩
theorem YR {α:Type} [DecidableEq α]:∀ {l u:List α},l.Nodup→(∀ x∈l,x∈u)→l.length≤u.length
 | [],_,_,_=>Nat.zero_le _
 | x::l,u,nd,h=>by
  rw [List.nodup_cons] at nd
  have hx:=h x (by simp)
  have:=YR (l:=l) (u:=u.erase x) nd.2 fun y hy=>by
   rw [List.mem_erase_of_ne (by rintro rfl; exact nd.1 hy)]
   exact h y (by simp [hy])
  rw [List.length_erase_of_mem hx] at this
  have hp:=List.length_pos_of_mem hx
  rw [List.length_cons]; lia
theorem Wf.len {R} (h:Wf R):R.length≤60:=Nat.le_trans (YR h.nodup h.sub) (by decide)
theorem Zy {R:List Ty} {t:Ty} (h:t∈R):0≤kx R t∧kx R t < R.length:=by
 have:=List.idxOf_lt_length_of_mem h
 unfold kx; lia
theorem zmI {R:List Ty} {t:Ty}:(kx R t).toNat=R.idxOf t:=by unfold kx; lia
theorem zbJ {R:List Ty} {t:Ty} (h:t∈R):R[R.idxOf t]?=some t:=by
 rw [List.getElem?_eq_getElem (List.idxOf_lt_length_of_mem h),List.getElem_idxOf]
theorem Vp {R:List Ty} {t u:Ty} (h:t∈R) (h':u∈R) (e:kx R t=kx R u):t=u:=by
 have e:R.idxOf t=R.idxOf u:=by unfold kx at e; lia
 have:=zbJ h
 rw [e,zbJ h'] at this
 exact (Option.some.inj this).symm
theorem Vu {R:List Ty} {t:Ty} {α:Type} (f:Ty→α) (h:t∈R):(R.map f)[(kx R t).toNat]?=some (f t):=by
 rw [zmI,List.getElem?_map,zbJ h]; rfl
theorem jr {R:List Ty} {t:Ty} {E:List Ty} (h:t∈R):kx (R++E) t=kx R t:=by
 unfold kx; rw [List.idxOf_append,if_pos h]
theorem zM {R:List Ty} (h:Wf R) {i:Nat} (hi:i < 25):kx R (.base i)=i:=by
 obtain ⟨E,rfl⟩:=h.pre
 have hm:Ty.base i∈yL:=List.mem_map_of_mem (List.mem_range.mpr hi)
 rw [jr hm]
 unfold kx
 have:∀ i < 25,yL.idxOf (Ty.base i)=i:=by decide
 rw [this i hi]
theorem yX {R:List Ty} (h:Wf R) {i:Nat} (hi:i < 25):Ty.base i∈R:=by
 obtain ⟨E,rfl⟩:=h.pre
 exact List.mem_append_left _ (List.mem_map_of_mem (List.mem_range.mpr hi))
theorem K7 {R:List Ty} (h:Wf R) {i:Nat} (hm:Ty.base i∈R):i < 25:=by
 have:=h.sub _ hm
 have:∀ t∈Un,(match t with | .base i=>decide (i < 25) | _=>true)=true:=by decide
 simpa using this _ (h.sub _ hm)
theorem zjL {R:List Ty} (h:Wf R) {t:Ty} (hm:t∈R) (hb:∀ i,t≠.base i):25≤kx R t:=by
 obtain ⟨E,rfl⟩:=h.pre
 have:t∉yL:=by
  intro hm; obtain ⟨i,_,rfl⟩:=List.mem_map.mp hm; exact hb i rfl
 unfold kx
 rw [List.idxOf_append,if_neg this]
 have:yL.length=25:=by decide
 lia
theorem zaO {R:List Ty} (h:Wf R) {t u:Ty} (ht:t∈R∨∃ x,t=.arr x∧x∈R∨(∃ i,t=.var i∨t=.mvar i)) (hu:u∈R) (e:ya R t=ya R u):t=u:=by
 have hB:∀ i < 25,∀ j < 25,(yS[i]?).getD []=(yS[j]?).getD []→i=j:=by decide
 have hN:∀ i < 25,∀ x:AV,∀ s∈[4,6,7],(yS[i]?).getD []≠[.int s,x]:=by
  intro i hi x s hs e
  have:∀ i < 25,∀ s∈([4,6,7]:List Int),((yS[i]?).getD []).head?≠some (.int s):=by decide
  exact this i hi s hs (by rw [e]; rfl)
 have hx:∀ {x},t=.arr x→x∈R:=by
  rintro x rfl
  rcases ht with a | ⟨y,⟨e,hy⟩ | ⟨i,e | e⟩⟩
  ·exact h.clo _ a
  ·cases e; exact hy
  ·cases e
  ·cases e
 have hb:∀ {i},t=.base i→i < 25:=by
  rintro i rfl
  rcases ht with a | ⟨y,⟨e,hy⟩ | ⟨i,e | e⟩⟩
  ·exact K7 h a
  ·cases e
  ·cases e
  ·cases e
 cases t with
 | base i =>
  have hi:=hb rfl
  cases u with
  | base j=>rw [hB i hi j (K7 h hu) e]
  | var j=>exact absurd e (hN i hi _ 6 (by simp))
  | mvar j=>exact absurd e (hN i hi _ 7 (by simp))
  | arr x=>exact absurd e (hN i hi _ 4 (by simp))
 | var i =>
  cases u with
  | base j=>exact absurd e.symm (hN j (K7 h hu) _ 6 (by simp))
  | var j=>simp [ya] at e; rw [show i=j by lia]
  | mvar j=>simp [ya] at e
  | arr x=>simp [ya] at e
 | mvar i =>
  cases u with
  | base j=>exact absurd e.symm (hN j (K7 h hu) _ 7 (by simp))
  | var j=>simp [ya] at e
  | mvar j=>simp [ya] at e; rw [show i=j by lia]
  | arr x=>simp [ya] at e
 | arr x =>
  cases u with
  | base j=>exact absurd e.symm (hN j (K7 h hu) _ 4 (by simp))
  | var j=>simp [ya] at e
  | mvar j=>simp [ya] at e
  | arr y =>
   have:kx R x=kx R y:=by unfold kx; simpa [ya] using e
   rw [Vp (hx rfl) (h.clo _ hu) this]
theorem Jk {α:Type} {k:AV} {f:α→AV} {g:α→AV}:∀ {l:List α} {x:α},x∈l→f x=k→(∀ y∈l,f y=k→y=x)→ze k (l.map fun t=>(f t,g t))=some (g x)
 | [],x,h,_,_=>by cases h
 | y::l,x,h,e,u=>by
  rw [List.map_cons,yJ]
  cases q:AV.eqb (f y) k with
  | true =>
   have:=u y (by simp) (AV.eqb_eq q)
   subst this; rfl
  | false =>
   dsimp only
   rcases List.mem_cons.mp h with rfl | h
   ·rw [e,AV.eqb_refl] at q; cases q
   ·exact Jk h e fun z hz=>u z (by simp [hz])
theorem yk {α:Type} {k:AV} {f:α→AV} {g:α→AV}:∀ {l:List α},(∀ y∈l,f y≠k)→ze k (l.map fun t=>(f t,g t))=none
 | [],_=>rfl
 | y::l,u=>by
  rw [List.map_cons,yJ]
  cases q:AV.eqb (f y) k with
  | true=>exact absurd (AV.eqb_eq q) (u y (by simp))
  | false=>exact yk fun z hz=>u z (by simp [hz])
theorem Jf {k v:AV}:∀ {es:List (AV×AV)},ze k es=none→zB k v es=es++[(k,v)]
 | [],_=>rfl
 | (j,u)::r,h=>by
  rw [yJ] at h
  rw [ju]
  cases q:AV.eqb j k with
  | true=>rw [q] at h; cases h
  | false=>rw [q] at h; dsimp only at h ⊢; rw [Jf h]; rfl
theorem KT.hit {R σ} (h:KT R σ) {t:Ty} (ht:t∈R):ze (.tup (ya R t)) σ.index=some (.int (kx R t)):=by
 rw [h.index]
 exact Jk (f:=fun t=>.tup (ya R t)) (g:=fun t=>.int (kx R t)) ht rfl fun y hy e=>zaO h.wf (.inl hy) ht (by simpa using e)
theorem KT.miss {R σ} (h:KT R σ) {t:Ty} (ht:t∉R) (hx:∃ x,t=.arr x∧x∈R∨(∃ i,t=.var i∨t=.mvar i)):ze (.tup (ya R t)) σ.index=none:=by
 rw [h.index]
 exact yk (f:=fun t=>.tup (ya R t)) (g:=fun t=>.int (kx R t)) fun y hy e=>ht (zaO h.wf (.inr hx) hy (by simpa using e.symm) ▸ hy)
theorem zae {R:List Ty} {t:Ty} {E:List Ty} (h:∀ x,t=.arr x→x∈R):ya (R++E) t=ya R t:=by
 cases t with
 | arr x=>have:=jr (E:=E) (h x rfl); unfold kx at this; show [AV.int 4,AV.int _]=[.int 4,.int _]; rw [this]
 | _=>rfl
theorem KT.kd {R σ} (h:KT R σ) {t:Ty} (ht:t∈R):0≤kx R t∧kx R t < (σ.rows.length:Int)∧σ.rows.length≤1000∧σ.rows[(kx R t).toNat]?=some (.tup (ya R t)):=by
 have:=Zy ht
 have l:=h.wf.len
 rw [h.rows,List.length_map]
 exact ⟨this.1,this.2,by lia,Vu _ ht⟩
theorem KT.add {R σ} (h:KT R σ) {x:Ty} (hx:x∉R) (hU:x∈Un) (hs:∃ y,x=.arr y∧y∈R∨(∃ i,x=.var i∨x=.mvar i)) {σ':St}
  (a:σ'.rows=σ.rows++[.tup (ya R x)]) (b:σ'.index=zB (.tup (ya R x)) (.int σ.rows.length) σ.index) (c:σ'.depths=σ.depths++[.int (dep x)]) (d:σ'.opens=σ.opens++[.int (opn x)]):KT (R++[x]) σ':=by
 have hin:∀ z,x=.arr z→z∈R:=by
  rintro z rfl
  obtain ⟨y,⟨e,hy⟩ | ⟨i,e | e⟩⟩:=hs
  ·cases e; exact hy
  ·cases e
  ·cases e
 have wf:Wf (R++[x]):=by
  refine ⟨?_,fun t ht=>?_,?_,fun t ht=>?_⟩
  ·rw [List.nodup_append]
   exact ⟨h.wf.nodup,by simp,fun a ha b hb=>by simp at hb; subst hb; rintro rfl; exact hx ha⟩
  ·rcases List.mem_append.mp ht with q | q
   ·exact h.wf.sub _ q
   ·simp at q; subst q; exact hU
  ·obtain ⟨E,e⟩:=h.wf.pre
   exact ⟨E++[x],by rw [e,List.append_assoc]⟩
  ·rcases List.mem_append.mp ht with q | q
   ·exact List.mem_append_left _ (h.wf.clo _ q)
   ·simp at q; exact List.mem_append_left _ (hin _ q.symm)
 have er:∀ t∈R,ya (R++[x]) t=ya R t:=fun t ht=>zae fun z e=>h.wf.clo _ (e ▸ ht)
 have ex:ya (R++[x]) x=ya R x:=zae hin
 refine ⟨wf,?_,?_,?_,?_⟩
 ·rw [a,h.rows,List.map_append]
  congr 1
  ·exact List.map_congr_left fun t ht=>by rw [er t ht]
  ·simp [ex]
 ·rw [b,Jf (h.miss hx hs),h.index,List.map_append]
  congr 1
  ·exact List.map_congr_left fun t ht=>by rw [er t ht,jr ht]
  ·have:kx (R++[x]) x=(R.length:Int):=by
    unfold kx; rw [List.idxOf_append,if_neg hx]; simp
   simp [ex,this,h.rows]
 ·rw [c,h.depths]; simp
 ·rw [d,h.opens]; simp
section
variable {scr:List Int} {d:Nat} {σ:St} {Q:AV→St→Prop} {R:List Ty}
noncomputable def Ex (R R':List Ty):Prop:=Wf R'∧∃ E,R'=R++E
theorem Ex.refl {R} (h:Wf R):Ex R R:=⟨h,[],by simp⟩
theorem Ex.trans {R R' R''} (a:Ex R R') (b:Ex R' R''):Ex R R'':=by
 obtain ⟨_,E,rfl⟩:=a
 obtain ⟨w,F,rfl⟩:=b
 exact ⟨w,E++F,by rw [List.append_assoc]⟩
theorem Ex.mem {R R' t} (a:Ex R R') (h:t∈R):t∈R':=by obtain ⟨_,E,rfl⟩:=a; exact List.mem_append_left _ h
theorem Ex.kx {R R' t} (a:Ex R R') (h:t∈R):kx R' t=kx R t:=by obtain ⟨_,E,rfl⟩:=a; exact jr h
theorem Ex.wf {R R'} (a:Ex R R'):Wf R':=a.1
noncomputable def St.setK (σ:St) (R:List Ty):St:={ σ with rows:=R.map (fun t=>.tup (ya R t)),index:=R.map (fun t=>(.tup (ya R t),.int (kx R t))),depths:=R.map (fun t=>.int (dep t)),opens:=R.map (fun t=>.int (opn t)) }
theorem KT.set {R:List Ty} {σ:St} (h:Wf R):KT R (σ.setK R):=⟨h,rfl,rfl,rfl,rfl⟩
theorem KT.self {R:List Ty} {σ:St} (h:KT R σ):σ.setK R=σ:=by
 obtain ⟨_,a,b,c,e⟩:=h
 unfold St.setK; rw [← a,← b,← c,← e]
theorem KT.self' {R} {σ σ':St} (h:KT R σ') (e:σ'.setK R=σ.setK R):σ'=σ.setK R:=by rw [← e,h.self]
noncomputable def zH:Ty→Int
 | .base i=>if i < 16 then 1 else if i=21∨i=22∨i=23 then 3 else 2
 | .var _=>6 | .mvar _=>7 | .arr _=>4
theorem zet {R:List Ty} (h:Wf R) {t:Ty} (ht:t∈R):∃ rest,ya R t=.int (zH t)::rest:=by
 cases t with
 | base i =>
  have:∀ i < 25,((yS[i]?).getD []).head?=some (.int (zH (.base i))):=by decide
  have:=this i (K7 h ht)
  show ∃ rest,(yS[i]?).getD []=_
  cases q:(yS[i]?).getD [] with
  | nil=>rw [q] at this; cases this
  | cons x r=>rw [q] at this; cases this; exact ⟨r,rfl⟩
 | _=>exact ⟨_,rfl⟩
theorem KT.Kd {R σ} (h:KT R σ) {t:Ty} (ht:t∈R):Kd σ.rows (kx R t) (ya R t):=.mk (h.kd ht)
theorem KT.Kds {R σ} (h:KT R σ) {t:Ty} (ht:t∈R):∃ rest,Pl.Kd σ.rows (kx R t) (.int (zH t)::rest):=by
 obtain ⟨r,e⟩:=zet h.wf ht; exact ⟨r,e ▸ h.Kd ht⟩
theorem zll:∀ x∈Un,(match x with | .arr y=>decide (y≠.base 0∧y≠.base 14∧1≤dep y∧dep y≤20∧(zH y≤4∨zH y=6∨zH y=7)∧(opn y=0∨opn y=1)) | _=>true)=true:=by decide
theorem zgc {R:List Ty} (h:Wf R) {t:Ty} (ht:t∈R) {i:Nat} (hi:i < 25) (n:t≠.base i):kx R t≠i:=by
 intro e
 have:=zM h hi
 exact n (Vp ht (yX h hi) (e.trans this.symm))
theorem zgh {R:List Ty} {t:Ty} (hb:∀ i,t≠.base i):(ya R t).all (yi 6)=true:=by
 cases t with
 | base i=>exact absurd rfl (hb i)
 | _=>rfl
theorem zcH {x:Ty} (h:KT R σ) (hU:x∈Un) (hs:∃ y,x=.arr y∧y∈R∨(∃ i,x=.var i∨x=.mvar i))
  (q:∀ R',Ex R R'→x∈R'→KT R' (σ.setK R')→Q (.int (kx R' x)) (σ.setK R')):WC (cf scr (d + 4)) 4 [.obj 1,.tup (ya R x)] σ Q:=by
 have nb:∀ i,x≠.base i:=by
  rintro i rfl
  obtain ⟨y,⟨e,_⟩ | ⟨i,e | e⟩⟩:=hs <;> cases e
 by_cases hx:x∈R
 ·have:=q R (.refl h.wf) hx (.set h.wf)
  rw [h.self] at this
  exact zfh (zgh nb) (h.hit hx) (Zy hx).1 this
 ·have hm:=h.miss hx hs
  have l:=h.wf.len
  have l1:σ.rows.length < big:=by rw [h.rows,List.length_map]; exact Nat.lt_of_le_of_lt l (by decide)
  have l2:σ.index.length < big:=by rw [h.index,List.length_map]; exact Nat.lt_of_le_of_lt l (by decide)
  have l3:σ.depths.length < big:=by rw [h.depths,List.length_map]; exact Nat.lt_of_le_of_lt l (by decide)
  have l4:σ.opens.length < big:=by rw [h.opens,List.length_map]; exact Nat.lt_of_le_of_lt l (by decide)
  have fin:∀ σ':St,σ'.rows=σ.rows++[.tup (ya R x)]→σ'.index=zB (.tup (ya R x)) (.int σ.rows.length) σ.index→σ'.depths=σ.depths++[.int (dep x)]→σ'.opens=σ.opens++[.int (opn x)] →
    σ'.setK (R++[x])=σ.setK (R++[x])→Q (.int σ.rows.length) σ':=by
   intro σ' a b c e z
   have k:=h.add hx hU hs a b c e
   have:=q (R++[x]) ⟨k.wf,[x],rfl⟩ (by simp) (.set k.wf)
   rw [← z,k.self] at this
   have e:kx (R++[x]) x=(σ.rows.length:Int):=by
    simp [kx,List.idxOf_append,hx,h.rows]
   rw [e] at this; exact this
  have hu:=zll x hU
  cases x with
  | base i=>exact absurd rfl (nb i)
  | var i=>exact zkr (by lia) hm l1 l2 l3 l4 (fin _ rfl rfl rfl rfl rfl)
  | mvar i=>exact zmG (by lia) hm l1 l2 l3 l4 (fin _ rfl rfl rfl rfl rfl)
  | arr y =>
   have hy:y∈R:=by
    obtain ⟨z,⟨e,hz⟩ | ⟨i,e | e⟩⟩:=hs
    ·cases e; exact hz
    ·cases e
    ·cases e
   obtain ⟨n0,n14,d1,d2,hso,ho⟩:=of_decide_eq_true hu
   obtain ⟨rest,kd⟩:=h.Kds hy
   try refine Sk.mk ?_
   refine zlA kd (zgc h.wf hy (by decide) n0) (zgc h.wf hy (by decide) n14) hso hm (dj:=dep y) (oj:=opn y) (by rw [h.depths]; exact Vu _ hy) (by rw [h.opens]; exact Vu _ hy) ⟨d1,d2⟩ l1 l2 l3 l4 ?_
   refine fin _ rfl rfl rfl ?_ rfl
   show σ.opens++[.int (if opn y=1 then 1 else 0)]=σ.opens++[.int (opn y)]
   rcases ho with e | e <;> rw [e] <;> rfl
theorem j7 {t:Ty} (h:KT R σ) (ht:t∈R) (hU:.arr t∈Un) (q:∀ R',Ex R R'→.arr t∈R'→KT R' (σ.setK R')→Q (.int (kx R' (.arr t))) (σ.setK R')):WC (cf scr (d + 5)) 15 [.obj 1,.int (kx R t)] σ Q:=by
 refine za rfl rfl ?_
 symm
 refine zcH (x:=.arr t) h hU ⟨t,.inl ⟨rfl,ht⟩⟩ fun R' a b c=>(q R' a b c)
theorem zgz {i:Nat} (h:KT R σ) (hU:.var i∈Un) (q:∀ R',Ex R R'→.var i∈R'→KT R' (σ.setK R')→Q (.int (kx R' (.var i))) (σ.setK R')):WC (cf scr (d + 5)) 16 [.obj 1,.int i] σ Q:=by
 refine za rfl rfl ?_
 symm
 refine zcH (x:=.var i) h hU ⟨.base 0,.inr ⟨i,.inl rfl⟩⟩ fun R' a b c=>(q R' a b c)
theorem zfE {i:Nat} (h:KT R σ) (hU:.mvar i∈Un) (q:∀ R',Ex R R'→.mvar i∈R'→KT R' (σ.setK R')→Q (.int (kx R' (.mvar i))) (σ.setK R')):WC (cf scr (d + 5)) 17 [.obj 1,.int i] σ Q:=by
 refine za rfl rfl ?_
 symm
 refine zcH (x:=.mvar i) h hU ⟨.base 0,.inr ⟨i,.inr rfl⟩⟩ fun R' a b c=>(q R' a b c)
noncomputable def zQ:Ty→Ty
 | .var 0=>.base 16 | .var 1=>.base 8 | .mvar 0=>.base 17 | .mvar 1=>.base 4
 | .arr t=>.arr (zQ t)
 | t=>t
theorem zfO {w:Ty} {ta ma:AV} (h:KT R σ) (hw:w∈R) (ho:opn w=0) (q:Q (.int (kx R w)) σ):WC (cf scr (d + 9)) 24 [.obj 1,.int (kx R w),ta,ma] σ Q:=by
 have kd:=h.Kd hw
 have hi:=Zy hw
 have l:=h.wf.len
 have b:0≤kx R w∧kx R w < 1000000:=by lia
 have op:σ.opens[(kx R w).toNat]?=some (.int (opn w)):=by rw [h.opens]; exact Vu _ hw
 rw [ho] at op
 refine za rfl rfl ?_
 symm
 exact q
theorem xq {w:Ty} {i r:Nat} {kd:Option KK} {es:List (AV×AV)} {xs ys:List AV} {v:AV} (h:KT R σ) (hw:w∈R) (e:w=.var i∧xs[i]?=some v∨w=.mvar i∧ys[i]?=some v) (hx:xs.length=2) (hy:ys.length=2) (hi:i < 2)
  (hr:Dl σ.dyn r (.dict kd es)) (hn:Wh kd es (.int (kx R w))=some none) (q:Q v σ):WC (cf scr (d + 2)) 25 [.obj 1,.int (kx R w),.tup xs,.tup ys,.obj r] σ Q:=by
 have hk:=Zy hw
 have l:=h.wf.len
 have b:0≤kx R w∧kx R w < 1000000:=by lia
 have op:σ.opens[(kx R w).toNat]?=some (.int (opn w)):=by rw [h.opens]; exact Vu _ hw
 have ro:=(h.Kd hw).go.2.2.2
 have b1:xs.length≤big:=by rw [hx]; decide
 have b2:ys.length≤big:=by rw [hy]; decide
 have p1:0≤(i:Int)∧(i:Int) < 100∧(i:Int) < xs.length:=by rw [hx]; lia
 have p2:0≤(i:Int)∧(i:Int) < 100∧(i:Int) < ys.length:=by rw [hy]; lia
 refine za rfl rfl ?_
 rcases e with ⟨rfl,e⟩ | ⟨rfl,e⟩
 ·have op:σ.opens[(kx R (.var i)).toNat]?=some (.int 1):=op
  have ro:σ.rows[(kx R (.var i)).toNat]?=some (.tup [.int 6,.int i]):=ro
  have e':xs[(i:Int).toNat]?=some v:=e
  symm
  refine zk (zu hr) hn ?_
  symm
  refine zfi p1 b1 e' ?_
  symm
  exact q
 ·have op:σ.opens[(kx R (.mvar i)).toNat]?=some (.int 1):=op
  have ro:σ.rows[(kx R (.mvar i)).toNat]?=some (.tup [.int 7,.int i]):=ro
  have e':ys[(i:Int).toNat]?=some v:=e
  symm
  refine zk (zu hr) hn ?_
  symm
  refine zfi p2 b2 e' ?_
  symm
  exact q
theorem ziJ {t:Ty} {x:AV} {y:Int} (h:KT R σ) (e:kx R t=y) (ht:t∈R) (hU:.arr t∈Un) (q:∀ R',Ex R R'→.arr t∈R'→KT R' (σ.setK R')→Q (.int (kx R' (.arr t))) (σ.setK R')):WC (cf scr (d + 5)) 26 [.obj 1,.tup [.int 4,x],.tup [.int y]] σ Q:=by
 subst e
 refine za rfl rfl ?_
 symm
 refine zcH (x:=.arr t) h hU ⟨t,.inl ⟨rfl,ht⟩⟩ fun R' a b c=>(q R' a b c)
theorem znO {r:Nat} {b:AV} {ys:List AV} (h:KT R σ) (hw:.arr (.var 0)∈R) (hy:ys.length=2) (hr:Dl σ.dyn r (.dict none []))
  (q:∀ R' o,Ex R R'→.arr (.base 16)∈R'→KT R' (σ.setK R')→Q (.int (kx R' (.arr (.base 16)))) { σ.setK R' with dyn:=zf r o σ.dyn }) :
  WC (cf scr (d + 7)) 25 [.obj 1,.int (kx R (.arr (.var 0))),.tup [.int 16,b],.tup ys,.obj r] σ Q:=by
 have hv:=h.wf.clo _ hw
 have hk:=Zy hw
 have hk0:=Zy hv
 have l:=h.wf.len
 have bb:0≤kx R (.arr (.var 0))∧kx R (.arr (.var 0)) < 1000000:=by lia
 have op:σ.opens[(kx R (.arr (.var 0))).toNat]?=some (.int 1):=by rw [h.opens]; exact Vu _ hw
 have ro:σ.rows[(kx R (.arr (.var 0))).toNat]?=some (.tup [.int 4,.int (kx R (.var 0))]):=(h.Kd hw).go.2.2.2
 refine ym rfl rfl ?_
 symm
 refine zk (zu hr) (KY rfl) ?_
 symm
 refine yR (noR rfl) ?_
 symm
 refine xq (kd:=none) (es:=[]) (i:=0) (v:=.int 16) (h.of rfl rfl rfl rfl) hv (.inl ⟨rfl,rfl⟩) rfl hy (by decide) (by right) (KY rfl) ?_
 symm
 have e16:kx R (.base 16)=16:=zM h.wf (by decide)
 try refine Sk.mk ?_
 refine ziJ (R:=R) (t:=.base 16) (h.of rfl rfl rfl rfl) e16 (yX h.wf (by decide)) (by decide) fun R' a b c=>?_
 dsimp only [St.setK]
 symm
 refine ziw (by right) (zic rfl) ?_
 try dsimp only
 symm
 refine zn (by left) (v:=.int (kx R' (.arr (.base 16)))) (by rw [zt rfl,VH,AV.eqb_refl]) ?_
 symm
 exact zA (q R' _ a b (.set a.wf)) (by sizeOf_list_dec)
theorem Z2:∀ w∈Un,opn w=0→zQ w=w:=by decide
theorem zhQ:∀ w∈Un,opn w≠0→w=.var 0∨w=.var 1∨w=.mvar 0∨w=.mvar 1∨w=.arr (.var 0):=by decide
theorem yV {w:Ty} (h:KT R σ) (hw:w∈R) (q:∀ R',Ex R R'→zQ w∈R'→KT R' (σ.setK R')→Q (.int (kx R' (zQ w))) (σ.setK R')):WC (cf scr (d + 11)) 93 [.obj 17,.obj 53,.int (kx R w)] σ Q:=by
 have k24:Kd σ.rows 24 [.int 2,.int 71,.tup [.int 16,.int 8]]:=by
  have:=h.Kd (yX h.wf (i:=24) (by decide))
  rw [zM h.wf (by decide)] at this
  exact this
 have hU:=h.wf.sub _ hw
 have fin:∀ i,i < 25→zQ w=.base i→Q (.int i) σ:=by
  intro i hi e
  have:=q R (.refl h.wf) (e ▸ yX h.wf hi) (.set h.wf)
  rw [h.self,e,zM h.wf hi] at this
  all_goals exact this
 refine za rfl rfl ?_
 symm
 refine za rfl rfl ?_
 symm
 refine zj5 (row:=[.tup [.int 16,.int 8]]) k24 ?_
 symm
 all_goals show WC _ 24 [.obj 1,.int (kx R w),.tup [.int 16,.int 8],.tup [.int 17,.int 4]] σ _
 by_cases ho:opn w=0
 ·have e:=Z2 w hU ho
  have:=q R (.refl h.wf) (by rw [e]; exact hw) (.set h.wf)
  rw [h.self,e] at this
  exact zfO h hw ho (this)
 ·have kd:=h.Kd hw
  have hk:=Zy hw
  have l:=h.wf.len
  have b:0≤kx R w∧kx R w < 1000000:=by lia
  have ho1:∀ x∈Un,opn x≠0→opn x=1:=by decide
  have op:σ.opens[(kx R w).toNat]?=some (.int (opn w)):=by rw [h.opens]; exact Vu _ hw
  rw [ho1 w hU ho] at op
  refine ym rfl rfl ?_
  symm
  rcases zhQ w hU ho with rfl | rfl | rfl | rfl | rfl
  ·refine xq (kd:=none) (es:=[]) (i:=0) (v:=.int 16) (h.of rfl rfl rfl rfl) hw (.inl ⟨rfl,rfl⟩) rfl rfl (by decide) (by right) (KY rfl) ?_
   symm
   exact zA ((fin 16 (by decide) rfl)) (by sizeOf_list_dec)
  ·refine xq (kd:=none) (es:=[]) (i:=1) (v:=.int 8) (h.of rfl rfl rfl rfl) hw (.inl ⟨rfl,rfl⟩) rfl rfl (by decide) (by right) (KY rfl) ?_
   symm
   exact zA ((fin 8 (by decide) rfl)) (by sizeOf_list_dec)
  ·refine xq (kd:=none) (es:=[]) (i:=0) (v:=.int 17) (h.of rfl rfl rfl rfl) hw (.inr ⟨rfl,rfl⟩) rfl rfl (by decide) (by right) (KY rfl) ?_
   symm
   exact zA ((fin 17 (by decide) rfl)) (by sizeOf_list_dec)
  ·refine xq (kd:=none) (es:=[]) (i:=1) (v:=.int 4) (h.of rfl rfl rfl rfl) hw (.inr ⟨rfl,rfl⟩) rfl rfl (by decide) (by right) (KY rfl) ?_
   symm
   exact zA ((fin 4 (by decide) rfl)) (by sizeOf_list_dec)
  ·refine znO (h.of rfl rfl rfl rfl) hw rfl (by right) fun R' o a b c=>?_
   dsimp only [St.setK]
   symm
   exact zA ((q R' a b (.set a.wf))) (by sizeOf_list_dec)
end
section
variable {scr:List Int} {d:Nat} {σ:St} {Q:AV→St→Prop} {k s:Int} {rest row:List AV}
theorem zb4 (x:Int):Builtin.bitAnd x 18446744073709551615=x % 18446744073709551616:=by
 induction x using Int.casesOn with
 | ofNat n =>
  rw [PyProof.Rows.bitAnd_pp (x:=Int.ofNat n) (y:=18446744073709551615) (Int.natCast_nonneg n) (by decide)]
  exact congrArg Int.ofNat (Nat.and_two_pow_sub_one_eq_mod n 64)
 | negSucc m =>
  rw [PyProof.Rows.bitAnd_np (x:=Int.negSucc m) (y:=18446744073709551615) (Int.not_le.mpr (Int.negSucc_lt_zero m)) (by decide),Int.negSucc_emod m (by decide)]
  have e:(Builtin.bitNot (Int.negSucc m)).toNat=m:=congrArg Int.toNat (Int.add_sub_cancel (m:Int) 1)
  rw [e]
  exact congrArg (fun n:Nat=>(18446744073709551615:Int) - (n:Int)) ((Nat.and_comm ..).trans (Nat.and_two_pow_sub_one_eq_mod m 64))
noncomputable def yf (b:Nat) (n:Int):Int:=(n + 2 ^ (b - 1)) % 2 ^ b - 2 ^ (b - 1)
theorem jc {n:Int} {b:Nat} (hk:∀ x:Int,Builtin.bitAnd x (2 ^ b - 1)=x % 2 ^ b) (hb:1≤b∧b≤64) (q:Q (.int (yf b n)) σ):WC (cf scr (d + 1)) 29 [.int n,.int b] σ Q:=by
 obtain ⟨c,rfl⟩:∃ c,b=c + 1:=⟨b - 1,by lia⟩
 have e1:(1:Int) * 2 ^ ((c + 1:Nat):Int).toNat=2 ^ (c + 1):=by rw [Int.toNat_natCast,Int.one_mul]
 have hp:(0:Int) < 2 ^ c:=Int.pow_pos (by decide)
 have hq:(2:Int) ^ (c + 1)=2 * 2 ^ c:=by rw [Int.pow_succ]; lia
 have hm:(n % 2 ^ (c + 1)).fdiv (2 ^ c)≠0↔(2:Int) ^ c≤n % 2 ^ (c + 1):=by
  have h0:=Int.emod_nonneg n (show (2:Int) ^ (c + 1)≠0 by lia)
  rw [Int.fdiv_eq_ediv_of_nonneg _ (by lia)]
  constructor
  ·intro h
   by_cases h2:n % 2 ^ (c + 1) < 2 ^ c
   ·exact absurd (Int.ediv_eq_zero_of_lt h0 h2) h
   ·lia
  ·intro h h2
   have:=(Int.le_ediv_iff_mul_le hp (a:=1) (b:=n % 2 ^ (c + 1))).mpr (by lia)
   lia
 have hw:yf (c + 1) n=if (2:Int) ^ c≤n % 2 ^ (c + 1) then n % 2 ^ (c + 1) - 2 ^ (c + 1) else n % 2 ^ (c + 1):=by
  unfold yf
  rw [Nat.add_sub_cancel,hq]
  rw [← Int.emod_add_emod]
  clear hm hq e1
  generalize (2:Int) ^ c=p at *
  have h0:=Int.emod_nonneg n (show 2 * p≠0 by lia)
  have h1:=Int.emod_lt_of_pos n (show 0 < 2 * p by lia)
  generalize n % (2 * p)=r at *
  split
  ·rw [← Int.sub_emod_right,Int.emod_eq_of_lt (by lia) (by lia)]; lia
  ·rw [Int.emod_eq_of_lt (by lia) (by lia)]; lia
 have e9:(((c + 1:Nat):Int) - 1).toNat=c:=by lia
 rw [hw] at q
 refine za rfl rfl ?_
 symm
 refine zjx ⟨by decide,by lia,by lia⟩ ?_
 rw [e1]
 symm
 rw [hk]
 try refine Sk.mk ?_
 refine zjt (by lia) ?_
 rw [e9]
 by_cases h:(2:Int) ^ c≤n % 2 ^ (c + 1)
 ·rw [if_pos h] at q
  refine zeZ (hm.mpr h) ?_
  symm
  refine zjx ⟨by decide,by lia,by lia⟩ ?_
  rw [e1]
  symm
  exact q
 ·rw [if_neg h] at q
  refine zjC (fun x=>h (hm.mp x)) ?_
  symm
  exact q
theorem zgW {n:Int} (q:Q (.int (yf 32 n)) σ):WC (cf scr (d + 2)) 30 [.int n] σ Q:=by
 refine za rfl rfl ?_
 symm
 exact jc (b:=32) PyProof.Rows.bitAnd_m32 (by decide) (q)
theorem xm {n:Int} (q:Q (.int (yf 64 n)) σ):WC (cf scr (d + 2)) 31 [.int n] σ Q:=by
 refine za rfl rfl ?_
 symm
 exact jc (b:=64) zb4 (by decide) (q)
noncomputable def zhX (k n:Int):Int:=if k=1∨k=4 then n % 256 else if k=2∨k=6 then n % 65536 else if k=3 then yf 8 n else if k=5 then yf 16 n else if k=9∨k=10 then yf 64 n else yf 32 n
theorem zjA {n:Int}:Builtin.bitAnd n 255=n % 256:=PyProof.Rows.bitAnd_m8 n
theorem zgR {n:Int}:Builtin.bitAnd n 65535=n % 65536:=PyProof.Rows.bitAnd_m16 n
theorem zoV {n:Int} (q:Q (.int (zhX k n)) σ):WC (cf scr (d + 3)) 33 [.int k,.int n] σ Q:=by
 refine za rfl rfl ?_
 unfold zhX at q
 by_cases h1:k=1
 ·rw [if_pos (by lia)] at q
  symm
  rw [← zjA] at q; exact q
 by_cases h4:k=4
 ·rw [if_pos (by lia)] at q
  symm
  rw [← zjA] at q; exact q
 by_cases h2:k=2
 ·rw [if_neg (by lia),if_pos (by lia)] at q
  symm
  rw [← zgR] at q; exact q
 by_cases h6:k=6
 ·rw [if_neg (by lia),if_pos (by lia)] at q
  symm
  rw [← zgR] at q; exact q
 rw [if_neg (by lia),if_neg (by lia)] at q
 by_cases h3:k=3
 ·rw [if_pos h3] at q
  symm
  exact jc (b:=8) PyProof.Rows.bitAnd_m8 (by decide) (q)
 by_cases h5:k=5
 ·rw [if_neg h3,if_pos h5] at q
  symm
  exact jc (b:=16) PyProof.Rows.bitAnd_m16 (by decide) (q)
 rw [if_neg h3,if_neg h5] at q
 by_cases h9:k=9
 ·rw [if_pos (.inl h9)] at q
  symm
  exact xm (q)
 by_cases h10:k=10
 ·rw [if_pos (.inr h10)] at q
  symm
  exact xm (q)
 rw [if_neg (by lia)] at q
 symm
 exact zgW (q)
noncomputable def zfD (s:Int):Int:=if s=2∨s=4∨s=8 then 4 else if s=3 then 5 else if s=5∨s=9 then 6 else if s=10 then 7 else -1
noncomputable def yq (k s:Int):Int:=if 1≤k∧k≤8 then 1 else if k=9∨k=10 then 2 else if k=11 then 3 else if k=12∨k=13∨k=14 then 4 else zfD s
theorem zed (hs:s=1∨s=2∨s=3∨s=4∨s=6∨s=7) (q:Q (.int (zfD s)) σ):WC (cf scr (d + 1)) 36 [.int s] σ Q:=by
 refine za rfl rfl ?_
 rcases hs with rfl | rfl | rfl | rfl | rfl | rfl
 all_goals
  symm
  exact q
theorem zoH (h:Kd σ.rows k (.int s::rest)) (hs:s=1∨s=2∨s=3∨s=4∨s=6∨s=7) (q:Q (.int (yq k s)) σ):WC (cf scr (d + 2)) 35 [.obj 1,.int k] σ Q:=by
 refine za rfl rfl ?_
 unfold yq at q
 by_cases h1:1≤k∧k≤8
 ·rw [if_pos h1] at q
  symm
  exact q
 rw [if_neg h1] at q
 by_cases h9:k=9
 ·rw [if_pos (.inl h9)] at q
  symm
  all_goals first | exact q | (exfalso; clear hs; lia)
 by_cases h10:k=10
 ·rw [if_pos (.inr h10)] at q
  symm
  all_goals first | exact q | (exfalso; clear hs; lia)
 rw [if_neg fun z=>z.elim h9 h10] at q
 by_cases h11:k=11
 ·rw [if_pos h11] at q
  symm
  all_goals first | exact q | (exfalso; clear hs; lia)
 rw [if_neg h11] at q
 by_cases h12:k=12∨k=13∨k=14
 ·rw [if_pos h12] at q
  rcases h12 with rfl | rfl | rfl
  all_goals
   symm
   exact q
 rw [if_neg h12] at q
 by_cases hk:k≤0
 all_goals
  symm
  exact zed hs (q)
end
local macro_rules | `(tactic| infer_instance) => `(tactic| (show WC _ 33 ..; refine zoV ?_))
local macro_rules | `(tactic| infer_instance) => `(tactic| (show WC _ 35 ..; (apply zoH; (assumption); (assumption))))
inductive Val where
 | num (g n:Int) | ref (a:Int) | st (k n a:Int) | ftn
 deriving DecidableEq
noncomputable def Val.tag:Val→Int
 | .num g _=>g | .ref _=>4 | .st _ _ _=>5 | .ftn=>7
noncomputable def Val.rest:Val→List AV
 | .num _ n=>[.int n] | .ref a=>[.int a] | .st k n a=>[.int k,.tup [.tup [.int 1,.int n],.tup [.int 4,.int a]]] | .ftn=>[.tup [.int 12,.int 1,.tup []]]
noncomputable def Val.av (v:Val):AV:=.tup (.int v.tag::v.rest)
noncomputable def Val.ok:Val→Prop
 | .num g _=>g=1∨g=2∨g=3
 | _=>True
section
variable {scr:List Int} {d:Nat} {σ:St} {Q:AV→St→Prop} {k s:Int} {rest row:List AV}
noncomputable def zrd (s:Int):Prop:=s=1∨s=2∨s=3∨s=4∨s=6∨s=7
noncomputable def zT (k s:Int):Val→Val
 | .num g n=>if yq k s=1∨yq k s=2∨yq k s=3 then .num (yq k s) (zhX k n) else .num g n
 | v=>v
theorem Zl {v:Val} (h:Kd σ.rows k (.int s::rest)) (hs:s=1∨s=2∨s=3∨s=4∨s=6∨s=7) (hv:v.ok) (q:Q (zT k s v).av σ):WC (cf scr (d + 4)) 34 [.obj 1,.int k,v.av] σ Q:=by
 refine za rfl rfl ?_
 cases v with
 | num g n =>
  rcases hv with rfl | rfl | rfl
  all_goals
   by_cases h1:yq k s=1∨yq k s=2∨yq k s=3
   ·have e:∀ g,zT k s (.num g n)=.num (yq k s) (zhX k n):=fun g=>if_pos h1
    rw [e] at q
    rcases h1 with h1 | h1 | h1
    all_goals
     symm
     exact q
   ·have e:∀ g,zT k s (.num g n)=.num g n:=fun g=>if_neg h1
    rw [e] at q
    symm
    exact q
 | _ =>
  symm
  exact q
noncomputable def Za (k s:Int) (v:Val):Bool :=
 if yq k s=5 then (match v with | .st k' _ _=>decide (k'=k) | _=>false)
 else if yq k s=3 then decide (v.tag=3∨v.tag=1∨v.tag=7)
 else if yq k s=1∧v.tag=3 then true
 else decide (yq k s≠-1∧v.tag=yq k s)
theorem Qb {Q:AV→St→Prop} {σ:St} {a b:Bool} (q:Q (.bool a) σ) (e:a=b):Q (.bool b) σ:=e ▸ q
theorem Qi {Q:AV→St→Prop} {σ:St} {a b:Int} (q:Q (.int a) σ) (e:a=b):Q (.int b) σ:=e ▸ q
theorem zeP {v:Val} (h:Kd σ.rows k (.int s::rest)) (hs:s=1∨s=2∨s=3∨s=4∨s=6∨s=7) (h6:yq k s≠6) (hv:v.ok) (q:Q (.bool (Za k s v)) σ):WC (cf scr (d + 3)) 37 [.obj 1,v.av,.int k] σ Q:=by
 refine za rfl rfl ?_
 generalize hf:Za k s v=fv at q
 unfold Za at hf
 by_cases h5:yq k s=5
 ·rw [if_pos h5] at hf
  by_cases g5:v.tag=5
  ·cases v with
   | num g n=>rcases hv with rfl | rfl | rfl <;> cases g5
   | st =>
    symm
    exact Qb q hf.symm
   | _=>cases g5
  ·have hf:false=fv:=by rw [← hf]; cases v <;> first | rfl | exact absurd rfl g5
   delta Val.av
   symm
   exact Qb q ((decide_eq_false g5).trans hf).symm
 rw [if_neg h5] at hf
 by_cases h3:yq k s=3
 ·rw [if_pos h3] at hf
  delta Val.av
  by_cases g3:v.tag=3
  ·rw [decide_eq_true (.inl g3)] at hf
   symm
   exact Qb q ((decide_eq_true g3).trans hf).symm
  by_cases g1:v.tag=1
  ·rw [decide_eq_true (.inr (.inl g1))] at hf
   symm
   exact Qb q ((decide_eq_true g1).trans hf).symm
  symm
  exact Qb q (hf.symm.trans (by simp [g3,g1] <;> rfl))
 rw [if_neg h3] at hf
 delta Val.av
 by_cases h1:yq k s=1
 ·rw [h1] at hf
  by_cases g3:v.tag=3
  ·rw [if_pos ⟨rfl,g3⟩] at hf
   symm
   exact Qb q hf.symm
  ·rw [if_neg fun z=>g3 z.2] at hf
   symm
   exact Qb q (hf.symm.trans (by simp [h1] <;> rfl))
 rw [if_neg (fun x=>h1 x.1)] at hf
 by_cases hm:yq k s=-1
 ·rw [decide_eq_false (fun x=>x.1 hm)] at hf
  symm
  exact Qb q (hf.symm.trans (by simp [hm]))
 symm
 exact Qb q (hf.symm.trans (by simp [hm] <;> rfl))
noncomputable def zq (k:Int):Int:=if k=21 then 5 else k
theorem qE (q:Q (.int (zq k)) σ):WC (cf scr (d + 1)) 83 [.obj 17,.int k] σ Q:=by
 refine za rfl rfl ?_
 symm
 refine zk znm (zt rfl) ?_
 by_cases h:k=21
 ·subst h; exact q
 ·have e:zq k=k:=if_neg h
  rw [e] at q
  have:ze (.int k) [(AV.int 21,AV.int 5)]=none:=by
   rw [VH]
   have:AV.eqb (.int 21) (.int k)=false:=decide_eq_false (fun x=>h x.symm)
   rw [this]; rfl
  rw [this]; exact q
noncomputable def Y7 (p:Int):Val:=if 1≤p∧p≤8 then .num 1 0 else if p=9∨p=10 then .num 2 0 else if p=11 then .num 3 0 else .ref 0
theorem Kl {p:Int} (q:Q (Y7 p).av σ):WC (cf scr (d + 1)) 32 [.int p] σ Q:=by
 refine za rfl rfl ?_
 unfold Y7 at q
 by_cases h1:1≤p∧p≤8
 ·rw [if_pos h1] at q
  symm
  exact q
 rw [if_neg h1] at q
 by_cases h9:p=9
 ·rw [if_pos (by lia)] at q
  subst h9
  symm
  exact q
 by_cases h10:p=10
 ·rw [if_pos (by lia)] at q
  subst h10
  symm
  exact q
 rw [if_neg (by lia)] at q
 by_cases h11:p=11
 ·rw [if_pos h11] at q
  subst h11
  symm
  exact q
 rw [if_neg h11] at q
 by_cases hk:p≤0
 all_goals
  symm
  exact q
noncomputable def Vz (k:Int):Val:=if k=22∨k=23 then .st k 0 0 else Y7 (zq k)
theorem zes (q:Q (Vz k).av σ):WC (cf scr (d + 3)) 82 [.obj 17,.int k] σ Q:=by
 refine za rfl rfl ?_
 symm
 refine za rfl rfl ?_
 symm
 refine zk zpQ (zt rfl) ?_
 by_cases h2:k=22
 ·subst h2
  symm
  exact q
 by_cases h3:k=23
 ·subst h3
  symm
  exact q
 have e:Vz k=Y7 (zq k):=if_neg (by lia)
 rw [e] at q
 have:ze (.int k) zdn=none:=by
  have a:AV.eqb (.int 22) (.int k)=false:=decide_eq_false (fun x=>h2 x.symm)
  have b:AV.eqb (.int 23) (.int k)=false:=decide_eq_false (fun x=>h3 x.symm)
  unfold zdn; rw [VH,a]; dsimp only; rw [VH,b]; rfl
 rw [this]
 symm
 refine qE ?_
 symm
 refine Kl ?_
 symm
 exact q
theorem zaM {v:Val} {s':Int} {rest':List AV} (h:Kd σ.rows (zq k) (.int s::rest)) (hs:s=1∨s=2∨s=3∨s=4∨s=6∨s=7) (h6:yq (zq k) s≠6) (hv:v.ok) (hf:Za (zq k) s v=true)
  (q:Q (zT (zq k) s v).av σ):WC (cf scr (d + 5)) 96 [.obj 17,.int k,v.av] σ Q:=by
 refine za rfl rfl ?_
 symm
 refine qE ?_
 symm
 refine zeP h hs h6 hv ?_
 rw [hf]
 symm
 refine Zl h hs hv ?_
 symm
 exact q
noncomputable def Zx (k:Int):Int:=(Ku k [(1,1),(3,1),(4,1),(2,2),(5,2),(6,2),(7,4),(8,4),(9,8),(10,8),(11,5)]).getD 0
theorem zjX {k:Int} (q:Q (.int (Zx k)) σ):JG3 (.int 0) σ Q ((Ku k [(1,1),(3,1),(4,1),(2,2),(5,2),(6,2),(7,4),(8,4),(9,8),(10,8),(11,5)]).map .int):=by
 unfold Zx at q
 cases h:Ku k [(1,1),(3,1),(4,1),(2,2),(5,2),(6,2),(7,4),(8,4),(9,8),(10,8),(11,5)] with
 | none=>rw [h] at q; exact q
 | some v=>rw [h] at q; exact q
noncomputable def za7 (k s k' s':Int):Bool:=decide (Zx k=Zx k'∧yq k s=yq k' s'∧(k=k'∨yq k s≠5))
theorem WN {k' s':Int} {rest':List AV} (h:Kd σ.rows k (.int s::rest)) (hs:s=1∨s=2∨s=3∨s=4∨s=6∨s=7) (h':Kd σ.rows k' (.int s'::rest')) (hs':s'=1∨s'=2∨s'=3∨s'=4∨s'=6∨s'=7)
  (q:Q (.bool (za7 k s k' s')) σ):WC (cf scr (d + 3)) 101 [.obj 17,.int k,.int k'] σ Q:=by
 refine za rfl rfl ?_
 generalize hf:za7 k s k' s'=fv at q
 unfold za7 at hf
 symm
 refine zfA rfl (zjX ?_)
 symm
 refine zfA rfl (zjX ?_)
 by_cases h1:Zx k=Zx k'
 ·by_cases h2:yq k s=yq k' s'
  ·symm
   by_cases h3:k=k'
   ·symm
    exact Qb q (hf.symm.trans (by rw [decide_eq_true (⟨h1,h2,.inl h3⟩:_∧_∧_),decide_eq_true h3]))
   ·symm
    exact Qb q (hf.symm.trans (by simp [h1,h2,h3]))
  ·symm
   exact Qb q (hf.symm.trans (by simp [h1,h2]))
 ·symm
  exact Qb q (hf.symm.trans (by simp [h1]))
end
local macro_rules | `(tactic| infer_instance) => `(tactic| (show WC _ 83 ..; refine qE ?_))
local macro_rules | `(tactic| infer_instance) => `(tactic| (show WC _ 82 ..; refine zes ?_))
local macro_rules | `(tactic| infer_instance) => `(tactic| (show WC _ 32 ..; refine Kl ?_))
section
variable {scr:List Int} {d:Nat} {σ:St} {Q:AV→St→Prop} {k s:Int} {rest row:List AV}
theorem ziC {c:Int} (h:σ.state=0) (hl:σ.told.length < big) (q:Q (.int (-2)) { σ with told:=σ.told++[.tup [.int c,.int 1,.int 0]],state:=3 }):WC (cf scr (d + 2)) 86 [.obj 17,.int c] σ Q:=by
 refine za rfl rfl ?_
 symm
 refine za rfl rfl ?_
 symm
 exact q
theorem zhO {c:Int} {x:AV} (h:σ.state=0) (hl:σ.thrown.length < big) (q:Q (.int (-2)) { σ with thrown:=σ.thrown++[.int c] }):WC (cf scr (d + 2)) 88 [.obj 17,.int c,x] σ Q:=by
 refine za rfl rfl ?_
 symm
 refine za rfl rfl ?_
 symm
 exact q
theorem zmu {a b:AV} (h:Dl σ.dyn σ.stk (.list [a,b])) (q:Q b { σ with dyn:=zf σ.stk (.list [a]) σ.dyn }):WC (cf scr (d + 2)) 87 [.obj 17,.obj 53] σ Q:=by
 refine za rfl rfl ?_
 symm
 refine za rfl rfl ?_
 symm
 exact q
theorem zkh {a b c:AV} (h:Dl σ.dyn σ.stk (.list [a,b,c])) (q:Q c { σ with dyn:=zf σ.stk (.list [a,b]) σ.dyn }):WC (cf scr (d + 2)) 87 [.obj 17,.obj 53] σ Q:=by
 refine za rfl rfl ?_
 symm
 refine za rfl rfl ?_
 symm
 exact q
theorem zkJ {a b c e:AV} (h:Dl σ.dyn σ.stk (.list [a,b,c,e])) (q:Q e { σ with dyn:=zf σ.stk (.list [a,b,c]) σ.dyn }):WC (cf scr (d + 2)) 87 [.obj 17,.obj 53] σ Q:=by
 refine za rfl rfl ?_
 symm
 refine za rfl rfl ?_
 symm
 exact q
noncomputable def zs (c:Int):Int:=if 2 + c < 3 then 3 else 2 + c
theorem zcT {c:Int} (q:Q (.int (zs c)) σ):WC (cf scr (d + 1)) 41 [.int c] σ Q:=by
 refine za rfl rfl ?_
 unfold zs at q
 by_cases h:2 + c < 3
 ·rw [if_pos h] at q
  symm
  exact q
 ·rw [if_neg h] at q
  symm
  exact q
local macro_rules | `(tactic| infer_instance)=>`(tactic| (show WC _ 41 ..; refine zcT ?_))
theorem zhg {r:Nat} {xs:List AV} (h:Dl σ.dyn r (.list xs)) (hb:xs.length≤big) (h1:σ.things.length < big) (h2:σ.at_.length < big)
  (q:∀ t,80≤t→zc t σ.dyn=none→Q (.obj t) { σ with made:=σ.made + 1,things:=σ.things++[.obj t],at_:=zB (.int σ.top) (.obj t) σ.at_,top:=σ.top + zs xs.length,fresh:=σ.fresh + zs xs.length,dyn:=zf t (.inst 3 (tF σ.top k r 0 (zs xs.length) (σ.made + 1))) σ.dyn }) :
  WC (cf scr (d + 3)) 44 [.obj 11,.int k,.obj r] σ Q:=by
 refine za rfl rfl ?_
 symm
 refine za rfl rfl ?_
 symm
 exact q _ (by assumption) (by assumption)
noncomputable def zE (v:Val):Bool:=v.casesOn (fun _ _=>false) (fun a=>!decide (a=0)) (fun _ _ a=>!decide (a=0)) false
theorem zjf {v:Val} (hv:v.ok) (q:Q (.bool (zE v)) σ):WC (cf scr (d + 2)) 49 [v.av] σ Q:=by
 refine ym rfl rfl ?_
 cases v with
 | ref a =>
  symm
  exact ZK q
 | num g n =>
  rcases hv with rfl | rfl | rfl
  all_goals
   symm
   refine YA (noR rfl) ?_
   symm
   refine za rfl rfl ?_
   symm
   exact zA q (by sizeOf_list_dec)
 | ftn =>
  symm
  refine YA (noR rfl) ?_
  symm
  refine za rfl rfl ?_
  symm
  exact zA q (by sizeOf_list_dec)
 | st k n a =>
  symm
  refine YA (noR rfl) ?_
  symm
  refine za rfl rfl ?_
  by_cases h:a=0
  ·have e:zE (.st k n a)=false:=by show (!decide (a=0))=false; simp [h]
   rw [e] at q
   symm
   exact zA q (by sizeOf_list_dec)
  ·have e:zE (.st k n a)=true:=by show (!decide (a=0))=true; simp [h]
   rw [e] at q
   symm
   exact zA q (by sizeOf_list_dec)
end
local macro_rules | `(tactic| infer_instance) => `(tactic| (show WC _ 41 ..; refine zcT ?_))
local macro_rules | `(tactic| infer_instance) => `(tactic| (show WC _ 87 ..; first | (apply zmu; (right)) | (apply zkh; (right)) | (apply zkJ; (right))))
local macro_rules | `(tactic| infer_instance) => `(tactic| (show WC _ 86 ..; (apply ziC; (assumption); (assumption))))
local macro_rules | `(tactic| infer_instance) => `(tactic| (show WC _ 88 ..; (apply zhO; (assumption); (assumption))))
section
variable {scr:List Int} {d:Nat} {σ:St} {Q:AV→St→Prop} {k s:Int} {rest row:List AV}
theorem zia {j n:Int} (h:Kd σ.rows k [.int 4,.int j]) (hk:25≤k) (hn:0≤n∧n≤100)
  (q:∀ r,80≤r→zc r σ.dyn=none→Q (.obj r) { σ with dyn:=zf r (.list (List.replicate n.toNat (Vz j).av)) σ.dyn }):WC (cf scr (d + 4)) 97 [.obj 17,.int k,.int n] σ Q:=by
 have hv:Kz k 4=false:=decide_eq_false (by lia)
 refine ym rfl rfl ?_
 symm
 refine zfb (by left) ⟨hn.1,hn.2,Nat.le_of_ble_eq_true rfl⟩ ?_
 rw [List.flatten_replicate_singleton]
 symm
 exact zA (q _ (by assumption) (zb (by assumption))) (by sizeOf_list_dec)
theorem zfB {j n:Int} (h:Kd σ.rows k [.int 4,.int j]) (hk:25≤k) (hn:0≤n∧n≤100) (h1:σ.things.length < big) (h2:σ.at_.length < big)
  (q:∀ t r,80≤r→zc r σ.dyn=none→80≤t→zc t (zf r (.list (List.replicate n.toNat (Vz j).av)) σ.dyn)=none →
   Q (.obj t) { σ with made:=σ.made + 1,things:=σ.things++[.obj t],at_:=zB (.int σ.top) (.obj t) σ.at_,top:=σ.top + zs n,fresh:=σ.fresh + zs n,dyn:=zf t (.inst 3 (tF σ.top k r 0 (zs n) (σ.made + 1))) (zf r (.list (List.replicate n.toNat (Vz j).av)) σ.dyn) }) :
  WC (cf scr (d + 6)) 85 [.obj 17,.int k,.int n] σ Q:=by
 have e:((List.replicate n.toNat (Vz j).av).length:Int)=n:=by rw [List.length_replicate]; lia
 refine za rfl rfl ?_
 symm
 refine zia h hk hn fun r a b=>?_
 symm
 refine zhg (xs:=List.replicate n.toNat (Vz j).av) (by right) (by rw [List.length_replicate]; unfold big; lia) h1 h2 fun t a2 b2=>?_
 rw [e]
 symm
 exact q t r a b a2 b2
theorem zao {t r:Nat} {a k' g z u i:Int} (h:Rd σ t (.inst 3 (tF a k' r g z u))) (q:Q (.int (a + 2 + i)) σ):WC (cf scr (d + 1)) 46 [.obj t,.int i] σ Q:=by
 refine za rfl rfl ?_
 symm
 refine Kx h rfl rfl ?_
 symm
 exact q
noncomputable def zZ (b a i:Int):Int:=(a + 2 + i).fdiv (2 ^ b.toNat)
theorem y9 {t r:Nat} {a k' g z u i:Int} {xs:List AV} {v:Val} (h:Dl σ.dyn t (.inst 3 (tF a k' r g z u))) (hr:Dl σ.dyn r (.list xs)) (ne:t≠r) (hi:0≤i∧i < xs.length∧i < 1000000) (hv:v.ok) (hb:0≤σ.bits) (hc:σ.cards.length < big)
  (q:Q .none { σ with cards:=if g > 0∧zE v=true then zB (.int (zZ σ.bits a i)) (.int 1) σ.cards else σ.cards,dyn:=zf r (.list (xs.set i.toNat v.av)) σ.dyn }):WC (cf scr (d + 3)) 51 [.obj 11,.obj t,.int i,v.av] σ Q:=by
 refine za rfl rfl ?_
 symm
 symm
 refine YC hr hi ?_
 try dsimp only
 by_cases hg:g > 0
 ·symm
  refine zjf hv ?_
  cases hh:zE v with
  | true =>
   rw [if_pos ⟨hg,hh⟩] at q
   symm
   refine zao (zu (by right)) ?_
   symm
   refine za rfl rfl ?_
   symm
   refine zjt hb ?_
   symm
   exact q
  | false =>
   rw [if_neg (fun x=>by rw [hh] at x; cases x.2)] at q
   symm
   exact q
 ·rw [if_neg (fun x=>hg x.1)] at q
  symm
  exact q
theorem qz {g:Int} (hs:σ.state=0) (hl:σ.told.length < big) (hg:g≠4) (q:Q .none { σ with told:=σ.told++[.tup [.int 1,.int 1,.int 0]],state:=3 }):WC (cf scr (d + 3)) 100 [.obj 17,.tup (.int g::rest)] σ Q:=by
 refine za rfl rfl ?_
 symm
 exact q
theorem V0 (hs:σ.state=0) (hl:σ.thrown.length < big) (q:Q .none { σ with thrown:=σ.thrown++[.int 21] }):WC (cf scr (d + 4)) 100 [.obj 17,.tup [.int 4,.int 0]] σ Q:=by
 refine za rfl rfl ?_
 symm
 refine za rfl rfl ?_
 symm
 exact q
theorem VF {a:Int} (hs:σ.state=0) (hl:σ.told.length < big) (ha:a≠0) (hm:ze (.int a) σ.at_=none) (q:Q .none { σ with told:=σ.told++[.tup [.int 5,.int 1,.int 0]],state:=3 }):WC (cf scr (d + 3)) 100 [.obj 17,.tup [.int 4,.int a]] σ Q:=by
 refine za rfl rfl ?_
 symm
 refine zk Zo (zt rfl) ?_
 rw [hm]
 symm
 exact q
theorem zct {a:Int} {t:Nat} (ha:a≠0) (hm:ze (.int a) σ.at_=some (.obj t)) (q:Q (.obj t) σ):WC (cf scr (d + 3)) 100 [.obj 17,.tup [.int 4,.int a]] σ Q:=by
 refine za rfl rfl ?_
 symm
 refine zk Zo (zt rfl) ?_
 rw [hm]
 symm
 exact q
theorem yN {v:AV} {σ':St} (h:∀ {d:Nat} {Q:AV→St→Prop},Q .none σ'→WC (cf scr (d + 4)) 100 [.obj 17,v] σ Q) (q:Q .none σ'):WC (cf scr (d + 5)) 102 [.obj 17,v] σ Q:=by
 refine za rfl rfl ?_
 symm
 refine h ?_
 symm
 exact q
theorem qn {a k' g z u:Int} {t r:Nat} (hs:σ.state=0) (hl:σ.told.length < big) (ha:a≠0) (hm:ze (.int a) σ.at_=some (.obj t)) (ht:Rd σ t (.inst 3 (tF a k' r g z u))) (hk:Kd σ.rows k' (.int s::rest)) (h4:s≠4)
  (q:Q .none { σ with told:=σ.told++[.tup [.int 5,.int 1,.int 0]],state:=3 }):WC (cf scr (d + 5)) 102 [.obj 17,.tup [.int 4,.int a]] σ Q:=by
 refine za rfl rfl ?_
 symm
 refine zct ha hm ?_
 symm
 refine Kx ht rfl rfl ?_
 symm
 exact q
theorem zc8 {a k' j g z u:Int} {t r:Nat} (ha:a≠0) (hm:ze (.int a) σ.at_=some (.obj t)) (ht:Rd σ t (.inst 3 (tF a k' r g z u))) (hk:Kd σ.rows k' [.int 4,.int j])
  (q:Q (.obj t) σ):WC (cf scr (d + 5)) 102 [.obj 17,.tup [.int 4,.int a]] σ Q:=by
 refine za rfl rfl ?_
 symm
 refine zct ha hm ?_
 symm
 refine Kx ht rfl rfl ?_
 symm
 exact q
theorem zef {g:Int} {v:AV} (hs:σ.state=0) (hl:σ.told.length < big) (h1:g≠1) (h3:g≠3) (q:Q .none { σ with told:=σ.told++[.tup [.int 1,.int 1,.int 0]],state:=3 }):WC (cf scr (d + 6)) 103 [.obj 17,v,.tup (.int g::rest)] σ Q:=by
 refine za rfl rfl ?_
 symm
 exact q
theorem JQ {g:Int} {v:AV} {σ':St} (hg:g=1∨g=3) (h:∀ {d:Nat} {Q:AV→St→Prop},Q .none σ'→WC (cf scr (d + 5)) 102 [.obj 17,v] σ Q) (q:Q .none σ'):WC (cf scr (d + 6)) 103 [.obj 17,v,.tup (.int g::rest)] σ Q:=by
 refine za rfl rfl ?_
 rcases hg with rfl | rfl
 all_goals
  symm
  refine h ?_
  symm
  exact q
theorem zbN {a k' j g z u i y:Int} {t r:Nat} {xs:List AV} (hs:σ.state=0) (hl:σ.thrown.length < big) (hg:y=1∨y=3) (ha:a≠0) (hm:ze (.int a) σ.at_=some (.obj t)) (ht:Rd σ t (.inst 3 (tF a k' r g z u))) (hk:Kd σ.rows k' [.int 4,.int j])
  (hx:Rd σ r (.list xs)) (hb:xs.length≤big) (hi:i < 0∨(xs.length:Int)≤i) (q:Q .none { σ with thrown:=σ.thrown++[.int 22] }):WC (cf scr (d + 6)) 103 [.obj 17,.tup [.int 4,.int a],.tup [.int y,.int i]] σ Q:=by
 refine za rfl rfl ?_
 rcases hg with rfl | rfl
 all_goals
  by_cases h0:i < 0
  all_goals
   symm
   refine zc8 ha hm ht hk ?_
   symm
   try (refine Kx ht rfl rfl ?_; simp_arith; refine zfW hx hb ?_)
   symm
   exact q
theorem zmB {a k' j g z u i y:Int} {t r:Nat} {xs:List AV} (hg:y=1∨y=3) (ha:a≠0) (hm:ze (.int a) σ.at_=some (.obj t)) (ht:Rd σ t (.inst 3 (tF a k' r g z u))) (hk:Kd σ.rows k' [.int 4,.int j])
  (hx:Rd σ r (.list xs)) (hb:xs.length≤big) (hi:0≤i∧i < (xs.length:Int)) (q:Q (.obj t) σ):WC (cf scr (d + 6)) 103 [.obj 17,.tup [.int 4,.int a],.tup [.int y,.int i]] σ Q:=by
 refine za rfl rfl ?_
 rcases hg with rfl | rfl
 all_goals
  symm
  refine zc8 ha hm ht hk ?_
  symm
  refine Kx ht rfl rfl ?_
  simp_arith
  refine zfW hx hb ?_
  symm
  exact q
end
section
variable {scr:List Int} {d:Nat} {σ:St} {Q:AV→St→Prop} {k s:Int} {rest row:List AV}
theorem zhB {v:AV} (q:Q v σ):WC (cf scr (d + 1)) 38 [v,.tup []] σ Q:=by
 refine za rfl rfl ?_
 simp_arith
 refine yR (noR rfl) ?_
 symm
 exact q
theorem zmO {v w:AV} (q:Q w σ):WC (cf scr (d + 1)) 39 [v,.tup [],w] σ Q:=by
 refine ym rfl rfl ?_
 symm
 refine yR (noR rfl) ?_
 symm
 exact zA q (by sizeOf_list_dec)
structure Th where
 t:Nat
 a:Int
 k:Int
 r:Nat
 g:Int
 z:Int
 u:Int
noncomputable def Th.at (σ:St) (x:Th):Prop:=Rd σ x.t (.inst 3 (tF x.a x.k x.r x.g x.z x.u))
noncomputable def Asc:List Th→Prop
 | []=>True
 | [_]=>True
 | x::y::l=>x.a + x.z≤y.a∧0 < x.z∧Asc (y::l)
theorem Asc.lt {l:List Th} (h:Asc l):∀ {i j:Nat} {x y:Th},i < j→l[i]?=some x→l[j]?=some y→x.a + x.z≤y.a∧0 < x.z:=by
 induction l with
 | nil=>intro i j x y _ h; cases h
 | cons b l ih =>
  intro i j x y hij hi hj
  cases l with
  | nil =>
   cases j with
   | zero=>lia
   | succ j=>cases hj
  | cons c l =>
   cases j with
   | zero=>lia
   | succ j =>
    rw [List.getElem?_cons_succ] at hj
    cases i with
    | succ i =>
     rw [List.getElem?_cons_succ] at hi
     exact ih h.2.2 (by lia) hi hj
    | zero =>
     rw [List.getElem?_cons_zero] at hi; cases hi
     cases j with
     | zero=>rw [List.getElem?_cons_zero] at hj; cases hj; exact ⟨h.1,h.2.1⟩
     | succ j =>
      have:=ih h.2.2 (i:=0) (j:=j + 1) (by lia) rfl hj
      exact ⟨by have:=h.1; lia,h.2.1⟩
theorem zfq {lo hi:Int} (h:lo < hi):lo≤(lo + hi).fdiv 2∧(lo + hi).fdiv 2 < hi:=by
 rw [Int.fdiv_eq_ediv_of_nonneg _ (by decide)]
 lia
local macro_rules | `(tactic| simp_arith)=>`(tactic| (apply Ov.mk; assumption))
local macro_rules | `(tactic| left)=>`(tactic| assumption)
theorem zfK {l:List Th} {w:Int} {n:Nat} {x:Th} (hl:σ.things=l.map fun x=>.obj x.t) (ht:∀ x∈l,x.at σ) (asc:Asc l) (hx:l[n]?=some x) (hlen:l.length≤60)
  (hm:ze (.int w) σ.at_=none) (h1:x.a≤w) (h2:w < x.a + x.z) (q:Q (.obj x.t) σ):WC (cf scr (d + 1)) 45 [.obj 11,.int w] σ Q:=by
 have hb:σ.things.length≤big:=by rw [hl,List.length_map]; exact Nat.le_trans hlen (by decide)
 have hn:n < l.length:=(List.getElem?_eq_some_iff.mp hx).1
 refine za rfl rfl ?_
 symm
 refine zk Zo (zt rfl) ?_
 rw [hm]
 iterate 20 (first | (show LP _ _ _ _ _ _) | simp_arith | skip)
 refine zc6 ?_
 have key:∀ (m:Nat) (lo hi:Int) (ρ:Loc),al 0 ρ=some (.obj 11)→al 1 ρ=some (.int w)→al 3 ρ=some (.int lo)→al 4 ρ=some (.int hi)→0≤lo→lo≤n + 1→n + 1≤hi→hi≤l.length→hi - lo < m→∀ f:Nat,m≤f →
   WW scr (cf scr d) f (.cmp (.loc 3) [.Lt] [(.loc 4)]) [.set (.name 5) (.bin .FloorDiv (.bin .Add (.loc 3) (.loc 4)) (.int 2)),
  .ite (.cmp (.attr (.idx (.attr (.loc 0) 14) (.loc 5)) 8) [.LtE] [(.loc 1)]) [.set (.name 3) (.bin .Add (.loc 5) (.int 1))] [.set (.name 4) (.loc 5)]] ρ σ (Jt (wS scr (cf scr d) [.ite (.cmp (.loc 3) [.Eq] [(.int 0)]) [.ret .none] [],
 .set (.name 6) (.idx (.attr (.loc 0) 14) (.bin .Sub (.loc 3) (.int 1))),
 .ite (.cmp (.loc 1) [.Lt] [(.bin .Add (.attr (.loc 6) 8) (.attr (.loc 6) 12))]) [.ret (.loc 6)] [],
 .ret .none]) (Jw Q)):=by
  intro m
  induction m with
  | zero=>intro lo hi ρ _ _ _ _ a b c e g; lia
  | succ m ih =>
   intro lo hi ρ p0 p1 p3 p4 a b c e g f hf
   obtain ⟨f,rfl⟩:∃ f',f=f' + 1:=⟨f - 1,by lia⟩
   refine zfU ?_
   by_cases lt:lo < hi
   ·have m1:=(zfq lt).1
    have m2:=(zfq lt).2
    have b5:0≤(lo + hi).fdiv 2∧(lo + hi).fdiv 2 < 1000000:=by clear h1 h2 hn g; lia
    obtain ⟨y,hy⟩:∃ y,l[((lo + hi).fdiv 2).toNat]?=some y:=⟨l[((lo + hi).fdiv 2).toNat]'(by clear h1 h2 hn g; lia),List.getElem?_eq_getElem _⟩
    have hty:σ.things[((lo + hi).fdiv 2).toNat]?=some (.obj y.t):=by rw [hl,List.getElem?_map,hy]; rfl
    have hyt:Rd σ y.t (.inst 3 (tF y.a y.k y.r y.g y.z y.u)):=ht y (List.mem_of_getElem? hy)
    have q0:=yr (j:=5) (w:=.int ((lo + hi).fdiv 2)) rfl p0
    have q1:=yr (j:=5) (w:=.int ((lo + hi).fdiv 2)) rfl p1
    have q3:=yr (j:=5) (w:=.int ((lo + hi).fdiv 2)) rfl p3
    have q4:=yr (j:=5) (w:=.int ((lo + hi).fdiv 2)) rfl p4
    have q5:=Kh (i:=5) (v:=.int ((lo + hi).fdiv 2)) (ρ:=ρ)
    by_cases le:y.a≤w
    ·symm
     have:(lo + hi).fdiv 2≤n:=by
      rcases Nat.lt_or_ge n ((lo + hi).fdiv 2).toNat with z | z
      ·have:=(asc.lt z hx hy).1; lia
      ·lia
     exact ih _ hi _ (yr rfl q0) (yr rfl q1) Kh (yr rfl q4) (by lia) (by lia) (by lia) (by lia) (by lia) f (by lia)
    ·symm
     have:(n:Int) + 1≤(lo + hi).fdiv 2:=by
      rcases Nat.lt_or_ge n ((lo + hi).fdiv 2).toNat with z | z
      ·lia
      ·rcases Nat.lt_or_eq_of_le z with z | z
       ·have:=(asc.lt z hy hx); lia
       ·rw [z,hx] at hy; cases hy; exact absurd h1 le
     exact ih lo _ _ (yr rfl q0) (yr rfl q1) (yr rfl q3) Kh (by lia) (by lia) (by lia) (by lia) (by lia) f (by lia)
   ·have e1:lo=n + 1:=by lia
    subst e1
    have hi':σ.things[((n:Int) + 1 - 1).toNat]?=some (.obj x.t):=by
     rw [show ((n:Int) + 1 - 1).toNat=n by lia,hl,List.getElem?_map,hx]; rfl
    have b6:0≤(n:Int) + 1 - 1∧(n:Int) + 1 - 1 < 1000000:=by lia
    have hX:Rd σ x.t (.inst 3 (tF x.a x.k x.r x.g x.z x.u)):=ht x (List.mem_of_getElem? hx)
    have r1:=yr (j:=6) (w:=.obj x.t) rfl p1
    have r6:=Kh (i:=6) (v:=.obj x.t) (ρ:=ρ)
    symm
    exact q
 have hlen2:(σ.things.length:Int)=l.length:=by rw [hl,List.length_map]
 exact key 100 0 σ.things.length _ rfl rfl rfl rfl (by lia) (by lia) (by lia) (by lia) (by lia) 100 (Nat.le_refl _)
end
local macro_rules | `(tactic| infer_instance) => `(tactic| (show WC _ 38 ..; refine zhB ?_))
local macro_rules | `(tactic| infer_instance) => `(tactic| (show WC _ 39 ..; refine zmO ?_))
section
variable {scr:List Int} {d:Nat} {σ:St} {Q:AV→St→Prop} {k s:Int} {rest row:List AV}
structure El (σ:St) (l:List Th) (n:Nat) (x:Th) (xs:List AV) (i:Int) (v:Val):Prop where
 hl:σ.things=l.map fun x=>.obj x.t
 ht:∀ x∈l,x.at σ
 asc:Asc l
 hx:l[n]?=some x
 hlen:l.length≤60
 hm:ze (.int (x.a + 2 + i)) σ.at_=none
 hr:Rd σ x.r (.list xs)
 hi:0≤i∧i < xs.length
 hz:x.z=zs xs.length
 hb:xs.length≤1000
 hv:xs[i.toNat]?=some v.av
theorem El.th {σ l n x xs i v} (e:El σ l n x xs i v):Rd σ x.t (.inst 3 (tF x.a x.k x.r x.g x.z x.u)):=e.ht x (List.mem_of_getElem? e.hx)
theorem qB {t r:Nat} {a k' g z u i w:Int} {xs:List AV} (h:Rd σ t (.inst 3 (tF a k' r g z u))) (hr:Rd σ r (.list xs)) (hb:xs.length≤big) (hw:w=a + 2 + i) (hi:0≤i∧i < xs.length) (q:Q (.int i) σ):WC (cf scr (d + 1)) 47 [.obj t,.int w] σ Q:=by
 have e:w - a - 2=i:=by lia
 refine za rfl rfl ?_
 symm
 refine Kx h rfl rfl ?_
 symm
 rw [e]
 symm
 refine Kx h rfl rfl ?_
 simp_arith
 refine zfW hr hb ?_
 symm
 exact q
theorem El.inb {σ l n x xs i v} (e:El σ l n x xs i v):x.a≤x.a + 2 + i∧x.a + 2 + i < x.a + x.z∧xs.length≤big∧0≤i∧i < 1000000:=by
 have:=e.hi; have:=e.hb; have:=e.hz
 have:zs xs.length ≥ 2 + xs.length:=by unfold zs; split <;> lia
 exact ⟨by lia,by lia,Nat.le_trans e.hb (by decide),by lia,by lia⟩
theorem xI {l n x xs i v} (e:El σ l n x xs i v) (q:Q v.av σ):WC (cf scr (d + 2)) 48 [.obj 11,.int (x.a + 2 + i)] σ Q:=by
 obtain ⟨b1,b2,b3,b4,b5⟩:=e.inb
 have hi:=e.hi
 refine za rfl rfl ?_
 symm
 refine zfK e.hl e.ht e.asc e.hx e.hlen e.hm b1 b2 ?_
 symm
 refine qB e.th e.hr b3 rfl e.hi ?_
 symm
 refine Kx e.th rfl rfl ?_
 symm
 refine Ww e.hr ⟨b4,b5⟩ e.hv ?_
 symm
 exact q
theorem zcB {l n x xs i v} (e:El σ l n x xs i v) (q:Q v.av σ):WC (cf scr (d + 3)) 58 [.obj 36,.tup [.int 3,.int (x.a + 2 + i),.tup []]] σ Q:=by
 refine za rfl rfl ?_
 symm
 refine xI e ?_
 symm
 exact q
theorem qk {w:Int} (q:Q (.tup []) σ):WC (cf scr (d + 1)) 55 [.tup [.int 3,.int w,.tup []]] σ Q:=by
 refine za rfl rfl ?_
 symm
 exact q
theorem qN {l n x xs i v} (e:El σ l n x xs i v) (q:Q v.av σ):WC (cf scr (d + 4)) 59 [.obj 36,.tup [.int 3,.int (x.a + 2 + i),.tup []]] σ Q:=by
 refine za rfl rfl ?_
 symm
 refine zcB e ?_
 symm
 refine qk ?_
 symm
 exact q
theorem qD {l n x xs i v} {v':Val} (e:El σ l n x xs i v) (h:Dl σ.dyn x.t (.inst 3 (tF x.a x.k x.r x.g x.z x.u))) (hr:Dl σ.dyn x.r (.list xs)) (ne:x.t≠x.r) (hv:v'.ok) (hb:0≤σ.bits) (hc:σ.cards.length < big)
  (q:Q (.bool true) { σ with cards:=if x.g > 0∧zE v'=true then zB (.int (zZ σ.bits x.a i)) (.int 1) σ.cards else σ.cards,dyn:=zf x.r (.list (xs.set i.toNat v'.av)) σ.dyn }):WC (cf scr (d + 4)) 52 [.obj 11,.int (x.a + 2 + i),.tup [],v'.av] σ Q:=by
 obtain ⟨b1,b2,b3,b4,b5⟩:=e.inb
 have hi:=e.hi
 have hv1:=e.hv
 have b45:0≤i∧i < 1000000:=⟨b4,b5⟩
 refine za rfl rfl ?_
 symm
 refine zfK e.hl e.ht e.asc e.hx e.hlen e.hm b1 b2 ?_
 symm
 refine qB e.th e.hr b3 rfl e.hi ?_
 symm
 refine y9 h hr ne ⟨b4,e.hi.2,b5⟩ hv hb hc ?_
 symm
 exact q
theorem JZ {l n x xs i v} {v':Val} (e:El σ l n x xs i v) (h:Dl σ.dyn x.t (.inst 3 (tF x.a x.k x.r x.g x.z x.u))) (hr:Dl σ.dyn x.r (.list xs)) (ne:x.t≠x.r) (hv:v'.ok) (hb:0≤σ.bits) (hc:σ.cards.length < big)
  (q:Q (.bool true) { σ with cards:=if x.g > 0∧zE v'=true then zB (.int (zZ σ.bits x.a i)) (.int 1) σ.cards else σ.cards,dyn:=zf x.r (.list (xs.set i.toNat v'.av)) σ.dyn }):WC (cf scr (d + 5)) 60 [.obj 36,.tup [.int 3,.int (x.a + 2 + i),.tup []],v'.av] σ Q:=by
 refine za rfl rfl ?_
 symm
 refine zcB e ?_
 symm
 refine qk ?_
 symm
 refine qD e h hr ne hv hb hc ?_
 symm
 exact q
theorem jV {n:Int} {b:Nat} (hb:1≤b∧b≤64) (q:Q (.int (yf b n)) σ):WC (cf scr (d + 1)) 118 [.int n,.int b] σ Q:=by
 have hp:(0:Int) < 2 ^ b:=Int.pow_pos (by decide)
 have h65:(2:Int) ^ b≤2 ^ 64:=by
  have:(2:Nat) ^ b≤2 ^ 64:=Nat.pow_le_pow_right (by decide) hb.2
  exact_mod_cast this
 refine za rfl rfl ?_
 symm
 refine ze8 ⟨by decide,by lia,by lia⟩ ?_
 symm
 refine ze8 ⟨by decide,by lia,by lia⟩ ?_
 rw [show ((b:Int) - 1).toNat=b - 1 by lia,show ((b:Int)).toNat=b by lia]
 simp_arith
 refine Y5 (by lia) ?_
 symm
 have e:(n - -2 ^ (b - 1)).fmod (2 ^ b) + -2 ^ (b - 1)=yf b n:=by
  unfold yf
  rw [Int.fmod_eq_emod_of_nonneg _ (by lia)]
  rw [show n - -2 ^ (b - 1)=n + 2 ^ (b - 1) by lia]; lia
 rw [← e] at q; exact q
end
local macro_rules | `(tactic| infer_instance) => `(tactic| (show WC _ 118 ..; first | refine jV (b := 32) (by decide) ?_ | refine jV (b := 64) (by decide) ?_))
noncomputable def VD:List (AV×AV):=[(.str [98,111,111,108],.int 1),(.str [105,49],.int 1),(.str [117,49],.int 1),(.str [99,104,97,114],.int 2),(.str [105,50],.int 2),(.str [117,50],.int 2),(.str [101],.int 2),(.str [105,52],.int 4),(.str [117,52],.int 4),(.str [105,56],.int 8),(.str [117,56],.int 8),(.str [110,105,110,116],.int 5),(.str [115],.int 9),(.str [115,50],.int 9)]
noncomputable def JR:List (AV×AV):=[(.str [98,111,111,108],.tup [.int 0,.int 256]),(.str [99,104,97,114],.tup [.int 0,.int 65536]),(.str [105,49],.tup [.int (-128),.int 256]),(.str [117,49],.tup [.int 0,.int 256]),(.str [105,50],.tup [.int (-32768),.int 65536]),(.str [117,50],.tup [.int 0,.int 65536]),(.str [101],.tup [.int (-32768),.int 65536]),(.str [105,52],.tup [.int (-2147483648),.int 4294967296]),(.str [117,52],.tup [.int (-2147483648),.int 4294967296]),(.str [105,56],.tup [.int (-9223372036854775808),.int 18446744073709551616]),(.str [117,56],.tup [.int (-9223372036854775808),.int 18446744073709551616]),(.str [110,105,110,116],.tup [.int (-2147483648),.int 4294967296])]
noncomputable def Wn:List (AV×AV):=[(.str [117,49],.str [105,49]),(.str [117,50],.str [105,50]),(.str [117,52],.str [105,52]),(.str [117,56],.str [105,56]),(.str [101],.str [105,50])]
noncomputable def VA:List (AV×AV):=[(.str [98],.tup [.str [97],.str [105]]),(.str [99],.tup [.str [98],.str [97],.str [105]])]
noncomputable def j5:List (AV×AV):=[(.str [98],.str [97]),(.str [99],.str [98]),(.str [97],.str [111]),(.str [116],.str [111]),(.str [105],.str [111]),(.str [105,52],.str [117,52]),(.str [117,52],.str [105,52]),(.str [117,49],.str [105,49]),(.str [105,49],.str [117,49]),(.str [98,111,111,108],.str [105,49]),(.str [101],.str [105,50]),(.str [105,50],.str [117,50]),(.str [117,50],.str [99,104,97,114]),(.str [99,104,97,114],.str [101]),(.str [105,56],.str [117,56]),(.str [117,56],.str [105,56]),(.str [115],.str [115,50]),(.str [115,50],.str [115]),(.str [110,105,110,116],.str [105,52]),(.str [97,91,93],.str [111]),(.str [117,52,91,93],.str [111]),(.str [111],.str [105])]
noncomputable def sOk (n:List Nat):Bool:=decide (n.length≤1000)&&n.all fun c=>decide (c < 55296)
theorem yc {n} (h:sOk n=true):Mine.kk (.str n)=some .str:=by
 show (match sOk n with | true=>some KK.str | false=>none)=_
 rw [h]
theorem zag {n} (h:sOk n=true):zg 5 (.str n)=true:=h
theorem xb {n} (h:sOk n=true):n.length≤1000:=by unfold sOk at h; simp at h; exact h.1
theorem zaL {n k} (h:sOk n=true):sOk (n.take k)=true:=by
 unfold sOk at h ⊢
 simp only [Bool.and_eq_true,decide_eq_true_eq,List.all_eq_true] at h ⊢
 exact ⟨by rw [List.length_take]; lia,fun c hc=>h.2 c (List.mem_of_mem_take hc)⟩
noncomputable def iv:AV→Int
 | .int i=>i
 | _=>0
noncomputable def zd (n:List Nat):Int:=iv ((ze (.str n) VD).getD (.int 0))
theorem Jl {k v:AV}:∀ {es:List (AV×AV)},ze k es=some v→∃ e∈es,e.1=k∧e.2=v
 | [],h=>by cases h
 | (j,u)::r,h=>by
  rw [yJ] at h
  cases q:AV.eqb j k with
  | true=>rw [q] at h; cases h; exact ⟨(j,_),by simp,AV.eqb_eq q,rfl⟩
  | false=>rw [q] at h; obtain ⟨e,a,b⟩:=Jl h; exact ⟨e,by simp [a],b⟩
theorem zeI (n:List Nat):(ze (.str n) VD).getD (.int 0)=.int (zd n):=by
 unfold zd
 cases h:ze (.str n) VD with
 | none=>rfl
 | some v =>
  obtain ⟨e,he,_,rfl⟩:=Jl h
  have:∀ e∈VD,e.2=.int (iv e.2):=by decide
  exact this e he
section
variable {scr:List Int} {d:Nat} {σ:St} {Q:AV→St→Prop} {k s:Int} {rest row:List AV} {n x y:List Nat}
theorem zhd (q:∀ r,80≤r→zc r σ.dyn=none→Q (.obj r) { σ with dyn:=zf r (.dict (some .str) VD) σ.dyn }):WC (cf scr (d + 1)) 116 [] σ Q:=by
 refine za rfl rfl ?_
 symm
 exact q _ (by assumption) (by assumption)
theorem jJ (h:sOk n=true) (q:Q (.int (zd n)) σ):WC (cf scr (d + 2)) 120 [.str n] σ Q:=by
 refine ym rfl rfl ?_
 symm
 refine zhd fun r a b=>?_
 symm
 refine zk (zu (by right)) (zt (yc h)) ?_
 refine Zn ?_
 rw [zeI]
 symm
 exact zA q (by sizeOf_list_dec)
local macro_rules | `(tactic| infer_instance)=>`(tactic| (show WC _ 120 ..; (apply jJ; (assumption))))
local macro_rules | `(tactic| infer_instance)=>`(tactic| (show WC _ 118 ..; first | refine jV (b:=32) (by decide) ?_ | refine jV (b:=64) (by decide) ?_))
noncomputable def yn (x y:List Nat):Bool:=decide (zd x≠zd y∨(zd x=9∧x≠y))
theorem J2 (hx:sOk x=true) (hy:sOk y=true) (q:Q (.bool (yn x y)) σ):WC (cf scr (d + 3)) 121 [.str x,.str y] σ Q:=by
 refine za rfl rfl ?_
 generalize hf:yn x y=f at q
 unfold yn at hf
 by_cases h1:zd x=zd y
 ·by_cases h9:zd x=9
  ·symm
   exact Qb q (hf.symm.trans (by simp [h1,← h9]))
  ·symm
   exact Qb q (hf.symm.trans (by simp [← h1,h9]))
 ·symm
  exact Qb q (hf.symm.trans (by simp [h1]))
theorem zaG (q:∀ r,80≤r→zc r σ.dyn=none→Q (.obj r) { σ with dyn:=zf r (.dict (some .str) JR) σ.dyn }):WC (cf scr (d + 1)) 117 [] σ Q:=by
 refine za rfl rfl ?_
 symm
 exact q _ (by assumption) (by assumption)
noncomputable def Zu (n:List Nat):Int:=if n=[110,105,110,116] then 3 else if zd n=8 then 2 else 1
noncomputable def Kc (n:List Nat):Option (Int×Int):=(ze (.str n) JR).bind fun u=>zlv u fun xs=>(xs[0]?).bind fun a=>(xs[1]?).bind fun b=>JJ a fun i=>JJ b fun j=>some (i,j)
noncomputable def zG (n:List Nat) (v:Val):Val:=v.casesOn (fun g i=>(Kc n).elim (.num g i) fun p=>.num (Zu n) ((i - p.1) % p.2 + p.1)) (fun x=>.ref x) (fun a b c=>.st a b c) .ftn
theorem xV {n:List Nat} {v:Val} (h:∀ g i,v≠.num g i):zG n v=v:=by
 induction v using Val.casesOn with
 | num g i=>exact absurd rfl (h g i)
 | _=>rfl
theorem qw {n:List Nat} {v:Val} (h:ze (.str n) JR=none):zG n v=v:=by
 induction v using Val.casesOn with
 | num g i=>show (Kc n).elim _ _=_; delta Kc; rw [h]; rfl
 | _=>rfl
theorem zdV:∀ e∈JR,∃ low many:Int,e.2=.tup [.int low,.int many]∧0 < many∧many≤18446744073709551616:=by
 intro e he
 simp only [JR,List.mem_cons,List.not_mem_nil,or_false] at he
 rcases he with rfl | rfl | rfl | rfl | rfl | rfl | rfl | rfl | rfl | rfl | rfl | rfl <;> exact ⟨_,_,rfl,by decide,by decide⟩
theorem Ka {v:Val} (h:sOk n=true) (hv:v.ok) (q:Q (zG n v).av σ):WC (cf scr (d + 3)) 119 [.str n,v.av] σ Q:=by
 refine ym rfl rfl ?_
 symm
 refine zaG fun r a b=>?_
 symm
 refine zk (zu (by right)) (zt (yc h)) ?_
 cases hd:ze (.str n) JR with
 | none =>
  have e:zG n v=v:=qw hd
  rw [e] at q
  symm
  exact zA q (by sizeOf_list_dec)
 | some u =>
  obtain ⟨e,he,_,rfl⟩:=Jl hd
  obtain ⟨low,many,e2,m0,m1⟩:=zdV e he
  rw [e2] at hd
  have num:∀ g i,g=1∨g=2∨g=3→v=.num g i→Q (.tup [.int (Zu n),.int ((i - low) % many + low)]) σ:=by
   rintro g i _ rfl
   have q:Q ((Kc n).elim (Val.num g i) fun p=>.num (Zu n) ((i - p.1) % p.2 + p.1)).av σ:=q; delta Kc at q; rw [hd] at q; exact q
  have oth:(∀ g i,v≠.num g i)→Q v.av σ:=by
   intro ho
   have e:zG n v=v:=xV ho
   rw [e] at q; exact q
  cases v with
  | num g i =>
   have q:=num g i hv rfl
   have hg:(Val.num g i).tag≤3:=by rcases hv with rfl | rfl | rfl <;> simp [Val.tag]
   have fin:∀ (t:Int),t=Zu n→Q (.tup [.int t,.int ((i - low).fmod many + low)]) σ:=by
    intro t e; rw [e,Int.fmod_eq_emod_of_nonneg _ (by lia)]; exact q
   by_cases h8:zd n=8
   all_goals
    by_cases hn:n=[110,105,110,116]
    all_goals
     symm
     refine zaG fun r a b=>?_
     symm
     refine zn (zu (by right)) ((zt (yc h)).trans (congrArg some hd)) ?_
     symm
     refine Y5 (by lia) ?_
     symm
     exact zA (fin _ (by unfold Zu; simp [h8,hn])) (by sizeOf_list_dec)
  | ref a =>
   have q:=oth (by simp)
   symm
   exact zA q (by sizeOf_list_dec)
  | st k n a =>
   have q:=oth (by simp)
   symm
   exact zA q (by sizeOf_list_dec)
  | ftn =>
   have q:=oth (by simp)
   symm
   exact zA q (by sizeOf_list_dec)
end
local macro_rules | `(tactic| infer_instance) => `(tactic| (show WC _ 120 ..; (apply jJ; (assumption))))
noncomputable def xi (n:List Nat):List Nat:=match ze (.str n) Wn with | some (.str m)=>m | _=>n
theorem zin (n:List Nat):(ze (.str n) Wn).getD (.str n)=.str (xi n):=by
 unfold xi
 cases h:ze (.str n) Wn with
 | none=>rfl
 | some v =>
  obtain ⟨e,he,_,rfl⟩:=Jl h
  have:∀ e∈Wn,(match e.2 with | .str _=>true | _=>false)=true:=by decide
  have:=this e he
  cases q:e.2 <;> rw [q] at this <;> first | rfl | cases this
noncomputable def Y3 (n:List Nat):List AV:=match ze (.str n) VA with | some (.tup xs)=>xs | _=>[]
theorem zau (n:List Nat):(ze (.str n) VA).getD (.tup [])=.tup (Y3 n):=by
 unfold Y3
 cases h:ze (.str n) VA with
 | none=>rfl
 | some v =>
  obtain ⟨e,he,_,rfl⟩:=Jl h
  have:∀ e∈VA,(match e.2 with | .tup _=>true | _=>false)=true:=by decide
  have:=this e he
  cases q:e.2 <;> rw [q] at this <;> first | rfl | cases this
theorem Zg (n:List Nat):(Y3 n).all (zg 5)=true:=by
 unfold Y3
 cases h:ze (.str n) VA with
 | none=>rfl
 | some v =>
  obtain ⟨e,he,_,rfl⟩:=Jl h
  have:∀ e∈VA,(match e.2 with | .tup xs=>xs.all (zg 5) | _=>true)=true:=by decide
  have:=this e he
  cases q:e.2 <;> rw [q] at this <;> first | rfl | exact this
noncomputable def zar (n:List Nat):List Nat:=n.take (n.length - 2)
noncomputable def zo0 (n:List Nat):List Nat:=n.drop (n.length - 2)
noncomputable def yE:Nat→List Nat→List Nat→Bool
 | 0,_,_=>false
 | f + 1,e,n =>
  if e=n∨n=[111] then true
  else if zo0 e=[91,93]∧zo0 n=[91,93] then
   if zd (zar e)=0∧zd (zar n)=0 then yE f (zar e) (zar n) else decide (xi (zar e)=xi (zar n))
  else (Y3 e).any fun y=>AV.eqb y (.str n)
section
variable {scr:List Int} {d:Nat} {σ:St} {Q:AV→St→Prop} {k s:Int} {rest row:List AV} {n x y:List Nat}
theorem jF (q:Q (.str (xi n)) σ):JG3 (.str n) σ Q (ze (.str n) Wn):=Zn (by rw [zin]; exact q)
theorem YI (q:∀ r,80≤r→zc r σ.dyn=none→Q (.obj r) { σ with dyn:=zf r (.dict (some .str) Wn) σ.dyn }):WC (cf scr (d + 1)) 115 [] σ Q:=by
 refine za rfl rfl ?_
 symm
 exact q _ (by assumption) (by assumption)
theorem zda (q:∀ r,80≤r→zc r σ.dyn=none→Q (.obj r) { σ with dyn:=zf r (.dict (some .str) VA) σ.dyn }):WC (cf scr (d + 1)) 114 [] σ Q:=by
 refine za rfl rfl ?_
 symm
 exact q _ (by assumption) (by assumption)
theorem zgy:∀ {f d:Nat} {e n:List Nat} {σ:St} {Q:AV→St→Prop},sOk e=true→sOk n=true→e.length < 2 * f→Q (.bool (yE f e n)) σ→WC (cf scr (f + d + 2)) 123 [.str e,.str n] σ Q
 | 0,_,_,_,_,_,_,_,h,_=>by lia
 | f + 1,d,e,n,σ,Q,he,hn,hl,q=>by
  have le:=xb he
  have ln:=xb hn
  have ce:sOk (zar e)=true:=zaL he
  have cn:sOk (zar n)=true:=zaL hn
  have l1:(1≤2∧e.length≤1000):=⟨by decide,le⟩
  have l2:(1≤2∧n.length≤1000):=⟨by decide,ln⟩
  generalize hf:yE (f + 1) e n=g at q
  have hf:(if _∨_ then _ else _)=g:=hf
  rw [show f + 1 + d + 2=f + d + 2 + 1 by lia]
  refine ym rfl rfl ?_
  by_cases h1:e=n
  ·rw [if_pos (.inl h1)] at hf; subst hf
   symm
   exact ZK q
  by_cases h2:n=[111]
  ·rw [if_pos (.inr h2)] at hf; subst hf
   symm
   exact ZK q
  rw [if_neg (by rintro (a | a) <;> contradiction)] at hf
  by_cases h3:List.drop (e.length - 2) e=[91,93]
  ·by_cases h4:List.drop (n.length - 2) n=[91,93]
   ·rw [if_pos ⟨h3,h4⟩] at hf
    have ce':sOk (e.take (e.length - 2))=true:=ce
    have cn':sOk (n.take (n.length - 2))=true:=cn
    have ll:e.length ≥ 2:=by
     have:=congrArg List.length h3
     rw [List.length_drop] at this
     simp at this; lia
    by_cases h5:zd (e.take (e.length - 2))=0
    ·by_cases h6:zd (n.take (n.length - 2))=0
     ·rw [if_pos ⟨h5,h6⟩] at hf
      subst hf
      symm
      refine zgy (f:=f) ce cn (by rw [List.length_take]; lia) ?_
      symm
      exact ZK q
     ·skip
      rw [if_neg (fun x=>h6 x.2)] at hf
      symm
      refine YI fun r a b=>?_
      symm
      refine zk (zu (by right)) (zt (yc ce)) ?_
      refine jF ?_
      symm
      refine YI fun r2 a2 b2=>?_
      symm
      refine zk (zu (by right)) (zt (yc cn)) ?_
      refine jF ?_
      symm
      exact zA (Qb q (hf.symm.trans (by congr 1))) (by sizeOf_list_dec)
    ·skip
     rw [if_neg (fun x=>h5 x.1)] at hf
     symm
     refine YI fun r a b=>?_
     symm
     refine zk (zu (by right)) (zt (yc ce)) ?_
     refine jF ?_
     symm
     refine YI fun r2 a2 b2=>?_
     symm
     refine zk (zu (by right)) (zt (yc cn)) ?_
     refine jF ?_
     symm
     exact zA (Qb q (hf.symm.trans (by congr 1))) (by sizeOf_list_dec)
   ·rw [if_neg (fun x=>h4 x.2)] at hf
    symm
    refine zda fun r a b=>?_
    symm
    refine zk (zu (by right)) (zt (yc he)) ?_
    refine Zn ?_
    rw [zau]
    try refine Sk.mk ?_
    refine Z6 (by rw [zag hn,Zg]; rfl) ?_
    symm
    exact zA (Qb q hf.symm) (by sizeOf_list_dec)
  ·rw [if_neg (fun x=>h3 x.1)] at hf
   symm
   refine zda fun r a b=>?_
   symm
   refine zk (zu (by right)) (zt (yc he)) ?_
   refine Zn ?_
   rw [zau]
   try refine Sk.mk ?_
   refine Z6 (by rw [zag hn,Zg]; rfl) ?_
   symm
   exact zA (Qb q hf.symm) (by sizeOf_list_dec)
end
noncomputable def K0:List Ty:=[.base 12,.base 13,.base 1,.base 2,.base 3,.base 4,.base 5,.base 6,.base 7,.base 8,.base 9,.base 10,.base 11,.base 16,.base 17,.base 18,.base 19,.base 20,.base 21,.base 22,.base 23]
noncomputable def Nmd:List Ty:=K0++zm.map .arr
section
variable {scr:List Int} {d:Nat} {σ:St} {Q:AV→St→Prop} {k s:Int} {rest row:List AV} {n x y:List Nat} {R K:List Ty}
structure KN (R K:List Ty) (σ:St):Prop where
 kinds:σ.kinds=K.map fun t=>(.str (nm t),.int (kx R t))
 sub:∀ t∈K,t∈R
 named:∀ t∈K,t∈Nmd
 base:∀ t∈K0,t∈K
 nodup:K.Nodup
theorem KN.hit {t:Ty} (h:KN R K σ) (ht:t∈K):ze (.str (nm t)) σ.kinds=some (.int (kx R t)):=by
 rw [h.kinds]
 refine Jk (f:=fun t=>.str (nm t)) (g:=fun t=>.int (kx R t)) ht rfl fun y hy e=>?_
 have inj:∀ a∈Nmd,∀ b∈Nmd,nm a=nm b→a=b:=by decide
 exact inj y (h.named y hy) t (h.named t ht) (by simpa using e)
theorem KN.miss {t:Ty} (h:KN R K σ) (hn:t∈Nmd) (ht:t∉K):ze (.str (nm t)) σ.kinds=none:=by
 rw [h.kinds]
 refine yk (f:=fun t=>.str (nm t)) (g:=fun t=>.int (kx R t)) fun y hy e=>?_
 have inj:∀ a∈Nmd,∀ b∈Nmd,nm a=nm b→a=b:=by decide
 have:=inj y (h.named y hy) t hn (by simpa using e)
 exact ht (this ▸ hy)
noncomputable def St.setN (σ:St) (R K:List Ty):St:={ σ.setK R with kinds:=K.map fun t=>(.str (nm t),.int (kx R t)) }
theorem KN.self (h:KT R σ) (n:KN R K σ):σ.setN R K=σ:=by
 unfold St.setN; rw [h.self,← n.kinds]
theorem KN.set {σ:St} (h:KN R K σ) {R':List Ty} (e:Ex R R'):KN R' K (σ.setN R' K):=⟨rfl,fun t ht=>e.mem (h.sub t ht),h.named,h.base,h.nodup⟩
theorem ziu:∀ t∈Nmd,sOk (nm t)=true∧(t∈K0∨(match t with | .arr u=>decide (u∈Nmd∧t∈Un) | _=>false)=true):=by decide
theorem zK {t:Ty} (h:t∈Nmd):sOk (nm t)=true∧(t∈K0∨∃ u,t=.arr u∧u∈Nmd∧t∈Un):=by
 obtain ⟨a,b⟩:=ziu t h
 refine ⟨a,b.imp id fun b=>?_⟩
 cases t with
 | arr u=>exact ⟨u,rfl,of_decide_eq_true b⟩
 | _=>cases b
theorem zln {u:Ty}:(nm (.arr u)).take ((nm (.arr u)).length - 2)=nm u:=by
 show (nm u++[91,93]).take ((nm u++[91,93]).length - 2)=nm u
 rw [List.length_append]; simp
theorem KN.len (h:KN R K σ):K.length≤60:=Nat.le_trans (YR h.nodup h.named) (by decide)
theorem zh7:∀ t∈Nmd,1≤dep t:=by decide
theorem zbZ {R R' K:List Ty} (e:Ex R R') (h:∀ t∈K,t∈R):(K.map fun t=>((.str (nm t),.int (kx R t)):AV×AV))=K.map fun t=>(.str (nm t),.int (kx R' t)) :=
 List.map_congr_left fun t ht=>by rw [e.kx (h t ht)]
theorem zca:∀ {f:Nat} {t:Ty} {d:Nat} {σ:St} {R K:List Ty} {Q:AV→St→Prop},t∈Nmd→dep t≤f→KT R σ→KN R K σ →
  (∀ R' K',Ex R R'→t∈K'→(∀ u∈K,u∈K')→(∀ v∈K',v∈K∨dep v≤dep t)→KT R' (σ.setN R' K')→KN R' K' (σ.setN R' K')→Q (.int (kx R' t)) (σ.setN R' K'))→WC (cf scr (f + d + 6)) 124 [.obj 79,.str (nm t)] σ Q
 | 0,t,_,_,_,_,_,ht,hd,_,_,_=>by have:=zh7 t ht; lia
 | f + 1,t,d,σ,R,K,Q,ht,hd,hk,hn,q=>by
  obtain ⟨so,hc⟩:=zK ht
  have lenn:=xb so
  have l1:(1≤2∧(nm t).length≤1000):=⟨by decide,lenn⟩
  rw [show f + 1 + d + 6=f + d + 6 + 1 by lia]
  refine za rfl rfl ?_
  by_cases hK:t∈K
  ·have hit:=hn.hit hK
   have:=q R K (.refl hk.wf) hK (fun u h=>h) (fun v h=>.inl h) (by rw [hn.self hk]; exact hk) (by rw [hn.self hk]; exact hn)
   rw [hn.self hk] at this
   symm
   refine zk Yl (zt (yc so)) ?_
   rw [hit]
   symm
   refine zn Yl ((zt (yc so)).trans (congrArg some hit)) ?_
   symm
   exact this
  ·have miss:=hn.miss ht hK
   rcases hc with hc | ⟨u,rfl,hu,hU⟩
   ·exact absurd (hn.base t hc) hK
   ·have e2:=zln (u:=u)
    symm
    refine zk Yl (zt (yc so)) ?_
    rw [miss]
    symm
    rw [e2]
    have hd':dep (.arr u)=dep u + 1:=rfl
    try refine Sk.mk ?_
    refine zca (f:=f) hu (by lia) hk hn fun R1 K1 a b c e g h=>?_
    symm
    have hu1:u∈R1:=h.sub u b
    refine j7 (t:=u) g hu1 hU fun R2 a2 b2 c2=>?_
    have h1:Ty.arr u∉K1:=by
     intro hm
     rcases e _ hm with z | z
     ·exact hK z
     ·lia
    have es:((σ.setN R1 K1).setK R2).kinds=K1.map fun t=>(.str (nm t),.int (kx R2 t)):=zbZ a2 h.sub
    have mm:ze (.str (nm (.arr u))) ((σ.setN R1 K1).setK R2).kinds=none:=h.miss ht h1
    have lk:((σ.setN R1 K1).setK R2).kinds.length < big:=by
     rw [es,List.length_map]; exact Nat.lt_of_le_of_lt h.len (by decide)
    have st:{ (σ.setN R1 K1).setK R2 with kinds:=zB (.str (nm (.arr u))) (.int (kx R2 (.arr u))) ((σ.setN R1 K1).setK R2).kinds }=σ.setN R2 (K1++[.arr u]):=by
     rw [Jf mm,es]; unfold St.setN St.setK; simp
    have n2:KN R2 (K1++[.arr u]) (σ.setN R2 (K1++[.arr u])):=by
     refine ⟨rfl,fun t ht'=>?_,fun t ht'=>?_,fun t ht'=>List.mem_append_left _ (h.base t ht'),?_⟩
     ·rcases List.mem_append.mp ht' with z | z
      ·exact a2.mem (h.sub t z)
      ·simp at z; subst z; exact b2
     ·rcases List.mem_append.mp ht' with z | z
      ·exact h.named t z
      ·simp at z; subst z; exact ht
     ·rw [List.nodup_append]
      exact ⟨h.nodup,by simp,fun a ha b hb=>by simp at hb; subst hb; rintro rfl; exact h1 ha⟩
    have fin:=q R2 (K1++[.arr u]) (a.trans a2) (by simp) (fun v hv=>List.mem_append_left _ (c v hv)) (fun v hv=>by
     rcases List.mem_append.mp hv with z | z
     ·rcases e v z with y | y
      ·exact .inl y
      ·exact .inr (by lia)
     ·simp at z; subst z; exact .inr (by lia)) ((KT.set (σ:=σ) a2.wf).of rfl rfl rfl rfl) n2
    have hit2:=n2.hit (t:=.arr u) (by simp)
    symm
    refine xX (yc so) lk ?_
    rw [st]
    symm
    refine zn Yl ((zt (yc so)).trans (congrArg some hit2)) ?_
    symm
    exact fin
end
section
variable {scr:List Int} {d:Nat} {σ:St} {Q:AV→St→Prop} {k s:Int} {rest row:List AV} {n x y:List Nat} {R K:List Ty}
theorem YN {R':List Ty} (h:KN R K σ) (e:Ex R R'):σ.setK R'=σ.setN R' K:=by
 unfold St.setN
 rw [← zbZ e h.sub,← h.kinds]; rfl
theorem KN.ext {R':List Ty} (h:KN R K σ) (e:Ex R R'):KN R' K (σ.setN R' K):=⟨rfl,fun t ht=>e.mem (h.sub t ht),h.named,h.base,h.nodup⟩
theorem zL:∀ t∈zm,t∈Nmd∧dep t≤2:=by decide
theorem yO {t:Ty} {o:Bool} (ht:t∈zm) (hk:KT R σ) (hn:KN R K σ)
  (q:∀ R' K' w,Ex R R'→w∈R'→zQ w=t→(∀ u∈K,u∈K')→KT R' (σ.setN R' K')→KN R' K' (σ.setN R' K')→Q (.int (kx R' w)) (σ.setN R' K')):WC (cf scr (d + 9)) 125 [.obj 79,.str (nm t),.bool o] σ Q:=by
 obtain ⟨hm,hd⟩:=zL t ht
 have cl:zQ t=t:=by
  have:∀ t∈zm,zQ t=t:=by decide
  exact this t ht
 have fin:∀ {d:Nat} {Q':AV→St→Prop},(∀ v σ',Q v σ'→Q' v σ')→WC (cf scr (2 + d + 6)) 124 [.obj 79,.str (nm t)] σ Q':=fun hq=>zca (f:=2) hm hd hk hn fun R' K' a b c e g h=>hq _ _ (q R' K' t a (h.sub _ b) cl c g h)
 have vr:∀ R',Ex R R'→∀ w∈R',zQ w=t→KT R' (σ.setK R')→Q (.int (kx R' w)) (σ.setK R'):=by
  intro R' e w hw hc hk'
  have:=YN hn e
  rw [this] at hk' ⊢
  exact q R' K w e hw hc (fun _ h=>h) hk' (hn.ext e)
 have inj:∀ b∈zm,nm t=nm b→t=b:=by
  have:∀ a∈zm,∀ b∈zm,nm a=nm b→a=b:=by decide
  exact this t ht
 refine za rfl rfl ?_
 cases o with
 | false =>
  symm
  exact (fin fun _ _ h=>h:WC (cf scr (2 + d + 6)) _ _ _ _) |> (by rw [show d + 8=2 + d + 6 by lia]; exact ·)
 | true =>
  by_cases h1:nm t=[97]
  ·have e:=inj (.base 16) (by decide) h1
   symm
   exact zgz (i:=0) hk (by decide) fun R' a b c=>(vr R' a _ b (by rw [e]; rfl) c)
  by_cases h2:nm t=[117,52]
  ·have e:=inj (.base 8) (by decide) h2
   symm
   exact zgz (i:=1) hk (by decide) fun R' a b c=>(vr R' a _ b (by rw [e]; rfl) c)
  by_cases h3:nm t=[98]
  ·have e:=inj (.base 17) (by decide) h3
   symm
   exact zfE (i:=0) hk (by decide) fun R' a b c=>(vr R' a _ b (by rw [e]; rfl) c)
  by_cases h4:nm t=[117,49]
  ·have e:=inj (.base 4) (by decide) h4
   symm
   exact zfE (i:=1) hk (by decide) fun R' a b c=>(vr R' a _ b (by rw [e]; rfl) c)
  by_cases h5:nm t=[97,91,93]
  ·have e:=inj (.arr (.base 16)) (by decide) h5
   symm
   refine zgz (i:=0) hk (by decide) fun R' a b c=>?_
   symm
   refine j7 (t:=.var 0) c b (by decide) fun R2 a2 b2 c2=>(vr R2 (a.trans a2) _ b2 (by rw [e]; rfl) c2)
  ·symm
   exact (fin fun _ _ h=>h:WC (cf scr (2 + d + 6)) _ _ _ _) |> (by rw [show d + 8=2 + d + 6 by lia]; exact ·)
theorem zfN {v:Val} (hv:v.ok) (q:Q (.bool (zE v)) σ):WC (cf scr (d + 1)) 130 [v.av] σ Q:=by
 refine za rfl rfl ?_
 cases v with
 | num g n =>
  rcases hv with rfl | rfl | rfl
  all_goals
   symm
   exact q
 | _ =>
  symm
  exact q
noncomputable def yd (n:List Nat) (kn:Int) (v:Val):Bool :=
 if zd n=0 then decide (v.tag=4)
 else if zd n=9 then (match v with | .st k _ _=>decide (k=kn) | _=>false)
 else if zd n=8 then decide (v.tag=2)
 else if zd n=5 then decide (v.tag=1∨v.tag=3∨v.tag=7)
 else decide (v.tag=1∨v.tag=3)
theorem YJ {v:Val} {kn:Int} (h:sOk n=true) (hv:v.ok) (hk:zd n=9→ze (.str n) σ.kinds=some (.int kn)) (q:Q (.bool (yd n kn v)) σ):WC (cf scr (d + 3)) 122 [.str n,v.av,.obj 79] σ Q:=by
 refine za rfl rfl ?_
 generalize hf:yd n kn v=f at q
 unfold yd at hf
 by_cases h0:zd n=0
 ·rw [if_pos h0] at hf
  symm
  exact Qb q hf.symm
 rw [if_neg h0] at hf
 by_cases h9:zd n=9
 ·rw [if_pos h9] at hf
  cases v with
  | st k' a b =>
   symm
   refine zn Yl ((zt (yc h)).trans (congrArg some (hk h9))) ?_
   symm
   exact Qb q hf.symm
  | num g i =>
   rcases hv with rfl | rfl | rfl
   all_goals
    symm
    exact Qb q hf.symm
  | _ =>
   symm
   exact Qb q hf.symm
 rw [if_neg h9] at hf
 by_cases h8:zd n=8
 ·rw [if_pos h8] at hf
  symm
  exact Qb q hf.symm
 rw [if_neg h8] at hf
 by_cases h5:zd n=5
 ·rw [if_pos h5] at hf
  cases v with
  | num g i =>
   rcases hv with rfl | rfl | rfl
   all_goals
    symm
    refine Z6 rfl ?_
    symm
    exact Qb q hf.symm
  | _ =>
   symm
   refine Z6 rfl ?_
   symm
   exact Qb q hf.symm
 rw [if_neg h5] at hf
 cases v with
 | num g i =>
  rcases hv with rfl | rfl | rfl
  all_goals
   symm
   refine Z6 rfl ?_
   symm
   exact Qb q hf.symm
 | _ =>
  symm
  refine Z6 rfl ?_
  symm
  exact Qb q hf.symm
end
local macro_rules | `(tactic| infer_instance) => `(tactic| (show WC _ 130 ..; (apply zfN; (assumption))))
structure Arr where
 t:Nat
 s:Nat
 i:Nat
 g:Nat
 e:Ty
 vs:List Val
 gen:Int
 addr:Int
 ser:Int
noncomputable def z0:List Int:=[16,19,22,25,28,31,34]
noncomputable def V4 (as:List Arr) (a:Int):Prop:=a=0∨a∈z0∨∃ x∈as,a=x.addr
noncomputable def VOk (as:List Arr) (v:Val):Prop:=v.ok∧∀ a,v=.ref a→V4 as a
section
variable {scr:List Int} {d:Nat} {σ:St} {Q:AV→St→Prop} {k s:Int} {rest row:List AV} {n x y:List Nat} {R K:List Ty} {as:List Arr}
theorem zS (z:Int) {m:Nat} (h:0 < m):0≤z.fmod m∧z.fmod m < m:=by
 rw [Int.fmod_eq_emod_of_nonneg _ (by lia)]
 exact ⟨Int.emod_nonneg _ (by lia),Int.emod_lt_of_pos _ (by lia)⟩
theorem KA {z:Int} (ho:σ.order=as.map fun a=>.int a.addr) (hl:as.length≤60) (q:∀ a,V4 as a→Q (Val.ref a).av σ):WC (cf scr (d + 1)) 127 [.obj 79,.int z] σ Q:=by
 have hol:σ.order.length=as.length:=by rw [ho,List.length_map]
 refine ym rfl rfl ?_
 symm
 refine zbf (by left) zgG (by decide) ?_
 symm
 have hlen:(([AV.int 0]++Wa)++σ.order).length=8 + as.length:=by rw [List.length_append,hol]; rfl
 have hbg:(([AV.int 0]++Wa)++σ.order).length≤big:=Nat.le_trans (Nat.le_of_eq hlen) (Nat.le_trans (Nat.add_le_add_left hl 8) (by decide))
 refine zbf (by left) zcI (by rw [← List.length_append]; exact hbg) ?_
 symm
 have hp:0 < (([AV.int 0]++Wa)++σ.order).length:=by rw [hlen]; exact Nat.lt_of_lt_of_le (by decide) (Nat.le_add_right 8 _)
 have hm:=zS z hp
 try refine Sk.mk ?_
 refine Y5 (fun z=>z.elim (Int.ne_of_gt (Int.lt_of_le_of_lt hm.1 hm.2)) fun z=>absurd (Nat.le_trans z hbg) (by decide)) ?_
 obtain ⟨v,hv⟩:∃ v,(([AV.int 0]++Wa)++σ.order)[(z.fmod ((([AV.int 0]++Wa)++σ.order).length:Nat)).toNat]?=some v:=⟨_,List.getElem?_eq_getElem ((Int.toNat_lt hm.1).mpr hm.2)⟩
 have hmem:=List.mem_of_getElem? hv
 have:∃ a,v=.int a∧V4 as a:=by
  rcases List.mem_append.mp hmem with h | h
  ·obtain ⟨a,ha,rfl⟩:=List.mem_map.mp (show v∈((0:Int)::z0).map AV.int from h)
   exact ⟨a,rfl,(List.mem_cons.mp ha).imp_right .inl⟩
  ·rw [ho] at h
   obtain ⟨a,ha,rfl⟩:=List.mem_map.mp h
   exact ⟨_,rfl,.inr (.inr ⟨a,ha,rfl⟩)⟩
 obtain ⟨a,rfl,ra⟩:=this
 try refine Sk.mk ?_
 refine Ww (by left) ⟨hm.1,Int.lt_of_lt_of_le hm.2 (Int.ofNat_le.mpr hbg)⟩ hv ?_
 symm
 exact zA (q a ra) (by sizeOf_list_dec)
theorem Y8 {z:Int} (ho:σ.order=as.map fun a=>.int a.addr) (hl:as.length≤60) (h:sOk n=true) (hk:zd n=9→∃ kn,ze (.str n) σ.kinds=some (.int kn)) (q:∀ v,VOk as v→Q v.av σ):WC (cf scr (d + 3)) 128 [.obj 79,.str n,.int z] σ Q:=by
 refine za rfl rfl ?_
 by_cases h0:zd n=0
 ·symm
  exact KA ho hl fun a ra=>(q _ ⟨trivial,fun b e=>by cases e; exact ra⟩)
 by_cases h9:zd n=9
 ·obtain ⟨kn,hk⟩:=hk h9
  symm
  refine zn Yl ((zt (yc h)).trans (congrArg some hk)) ?_
  symm
  refine KA ho hl fun a ra=>?_
  symm
  exact q (.st kn (yf 32 z) a) ⟨trivial,fun b e=>by cases e⟩
 by_cases h8:zd n=8
 ·symm
  exact q (.num 2 (yf 64 z)) ⟨.inr (.inl rfl),fun b e=>by cases e⟩
 symm
 have m:=zS z (m:=2) (by decide)
 have m2:z.fmod 2=0∨z.fmod 2=1:=by have:z.fmod 2=z.fmod (2:Nat):=rfl; lia
 refine q (.num (1 + 2 * z.fmod 2) (yf 32 (z.fdiv 2))) ⟨?_,fun b e=>by cases e⟩
 rcases m2 with e | e <;> rw [e]
 ·exact .inl rfl
 ·exact .inr (.inr rfl)
theorem KR {z:Int} (ho:σ.order=as.map fun a=>.int a.addr) (hl:as.length≤60) (h:sOk n=true) (hk:zd n=9→∃ kn,ze (.str n) σ.kinds=some (.int kn)) (hs:∃ kn,ze (.str [115]) σ.kinds=some (.int kn)) (q:∀ v,VOk as v→Q v.av σ):WC (cf scr (d + 4)) 129 [.obj 79,.str n,.int z] σ Q:=by
 refine za rfl rfl ?_
 by_cases h5:z.fmod 5=4
 ·have m:=zS (z.fdiv 5) (m:=6) (by decide)
  have m:0≤(z.fdiv 5).fmod 6∧(z.fdiv 5).fmod 6 < 6:=m
  by_cases h4:(z.fdiv 5).fmod 6=4
  ·symm
   exact q .ftn ⟨trivial,fun b e=>by cases e⟩
  ·symm
   generalize (z.fdiv 5).fmod 6=j at *
   have:j=0∨j=1∨j=2∨j=3∨j=5:=by lia
   rcases this with rfl | rfl | rfl | rfl | rfl
   all_goals
    try refine Sk.mk ?_
    refine qP (by decide) rfl ?_
    symm
    refine Y8 ho hl (by decide) (by first | exact fun _=>hs | (intro e; exact absurd e (by decide))) fun v hv=>(q v hv)
 ·symm
  exact Y8 ho hl h hk fun v hv=>(q v hv)
end
inductive Out where
 | ok | thr (c:Int) | wr (c:Int)
noncomputable def W3:Out→AV
 | .ok=>.tup [.str [],.int 0]
 | .thr c=>.tup [.str [116,104,114,111,119],.int c]
 | .wr c=>.tup [.str [119,114,111,110,103],.int c]
noncomputable def V7 (σ:St):Out→St
 | .ok=>σ
 | .thr c=>{ σ with thrown:=[.int c] }
 | .wr c=>{ σ with told:=[.tup [.int c,.int 1,.int 0]],state:=3 }
noncomputable def zjE (o:Out):List AV:=o.casesOn [] (fun _=>[]) fun c=>[.tup [.int c,.int 1,.int 0]]
noncomputable def zou (o:Out):List AV:=o.casesOn [] (fun c=>[.int c]) fun _=>[]
noncomputable def V5 (σ:St) (o:Out):St:={ σ with state:=o.casesOn σ.state (fun _=>σ.state) fun _=>3,told:=zjE o,thrown:=zou o }
inductive zns (o:Out):Prop
 | mk (w:List Nat) (c:Int) (e:W3 o=.tup [.str w,.int c]) (h:¬ w=[])
theorem zbt (ho:o≠.ok):zns o:=by
 cases o with
 | ok=>exact absurd rfl ho
 | thr c=>exact ⟨_,c,rfl,nofun⟩
 | wr c=>exact ⟨_,c,rfl,nofun⟩
theorem zeN {σ:St} (h1:σ.told=[]) (h2:σ.thrown=[]) (ho:o≠.ok):V7 σ o=V5 σ o:=by
 cases o with
 | ok=>exact absurd rfl ho
 | thr c=>exact congrArg (fun l=>({ σ with told:=l,thrown:=[.int c] }:St)) h1
 | wr c=>exact congrArg (fun l=>({ σ with state:=3,told:=[.tup [.int c,.int 1,.int 0]],thrown:=l }:St)) h2
noncomputable def at0:List (AV×AV):=[(.int 16,.obj 63),(.int 19,.obj 65),(.int 22,.obj 67),(.int 25,.obj 69),(.int 28,.obj 71),(.int 31,.obj 73),(.int 34,.obj 75)]
structure AF (as:List Arr) (σ:St):Prop where
 arrays:σ.arrays=as.map fun a=>(.int a.addr,.tup [.str (nm a.e),.obj a.i,.obj a.g])
 at_:σ.at_=at0++as.map fun a=>(.int a.addr,.obj a.t)
 order:σ.order=as.map fun a=>.int a.addr
 nd:(as.map (·.addr)).Nodup
 rng:∀ a∈as,37≤a.addr∧a.addr < 5000
 len:as.length≤60
structure Wz (R:List Ty) (D:List (Nat×AO)) (a:Arr):Prop where
 t:Dl D a.t (.inst 3 (tF a.addr (kx R (.arr a.e)) a.s a.gen (zs a.vs.length) a.ser))
 s:Dl D a.s (.list (a.vs.map Val.av))
 i:Dl D a.i (.list (a.vs.map Val.av))
 g:Dl D a.g (.list [.int a.gen])
structure Env (R:List Ty) (as:List Arr) (σ:St):Prop where
 kt:KT R σ
 af:AF as σ
 dyn:∀ a∈as,Wz R σ.dyn a
 el:∀ a∈as,a.e∈zm∧.arr a.e∈R∧a.vs.length≤5
 st:σ.state=0
 told:σ.told=[]
 thrown:σ.thrown=[]
theorem J4 {k:AV} {xs ys:List (AV×AV)}:ze k (xs++ys)=(ze k xs).or (ze k ys):=by
 induction xs with
 | nil=>show ze k ys=_; cases ze k ys <;> rfl
 | cons x xs ih =>
  obtain ⟨j,u⟩:=x
  rw [List.cons_append,yJ,yJ]
  cases AV.eqb j k
  ·exact ih
  ·rfl
theorem J3 {as:List Arr} (h:(as.map (·.addr)).Nodup) {a b:Arr} (ha:a∈as) (hb:b∈as) (e:a.addr=b.addr):a=b:=by
 induction as with
 | nil=>cases ha
 | cons x as ih =>
  rw [List.map_cons,List.nodup_cons] at h
  rcases List.mem_cons.mp ha with e1 | ha'
  ·rcases List.mem_cons.mp hb with e2 | hb'
   ·rw [e1,e2]
   ·exact absurd (List.mem_map.mpr ⟨b,hb',by rw [← e,e1]⟩) h.1
  ·rcases List.mem_cons.mp hb with e2 | hb'
   ·exact absurd (List.mem_map.mpr ⟨a,ha',by rw [e,e2]⟩) h.1
   ·exact ih h.2 ha' hb'
theorem AF.hit {as σ} (h:AF as σ) {a:Arr} (ha:a∈as):ze (.int a.addr) σ.arrays=some (.tup [.str (nm a.e),.obj a.i,.obj a.g]):=by
 rw [h.arrays]
 exact Jk (f:=fun a=>.int a.addr) (g:=fun a=>.tup [.str (nm a.e),.obj a.i,.obj a.g]) ha rfl fun y hy e=>J3 h.nd hy ha (AV.int.inj e)
theorem AF.miss {as σ} (h:AF as σ) {x:Int} (hx:∀ a∈as,a.addr≠x):ze (.int x) σ.arrays=none:=by
 rw [h.arrays]
 exact yk (f:=fun a=>.int a.addr) (g:=fun a=>.tup [.str (nm a.e),.obj a.i,.obj a.g]) fun y hy e=>hx y hy (AV.int.inj e)
theorem Zk {x:Int} (hx:x∉z0):ze (.int x) at0=none:=by
 have:at0=[(16,63),(19,65),(22,67),(25,69),(28,71),(31,73),(34,75)].map fun p:Int×Nat=>((.int p.1,.obj p.2):AV×AV):=rfl
 rw [this]
 refine yk (f:=fun p:Int×Nat=>.int p.1) (g:=fun p:Int×Nat=>.obj p.2) fun y hy e=>hx ?_
 have e:y.1=x:=AV.int.inj e
 rw [← e]
 clear e hx
 have all:∀ y∈([(16,63),(19,65),(22,67),(25,69),(28,71),(31,73),(34,75)]:List (Int×Nat)),y.1∈z0:=by decide
 exact all y hy
theorem AF.at {as σ} (h:AF as σ) {a:Arr} (ha:a∈as):ze (.int a.addr) σ.at_=some (.obj a.t):=by
 rw [h.at_,J4,Zk]
 ·exact Jk (f:=fun a=>.int a.addr) (g:=fun a=>.obj a.t) ha rfl fun y hy e=>J3 h.nd hy ha (AV.int.inj e)
 ·intro hm
  have:=h.rng a ha
  have:∀ x∈z0,x < 37:=by decide
  have:=this _ hm; omega
theorem AF.at_miss {as σ} (h:AF as σ) {x:Int} (hx:∀ a∈as,a.addr≠x) (ho:x∉z0):ze (.int x) σ.at_=none:=by
 rw [h.at_,J4,Zk ho]
 exact yk (f:=fun a=>.int a.addr) (g:=fun a=>.obj a.t) fun y hy e=>hx y hy (AV.int.inj e)
inductive Cls (as:List Arr):AV→AV→Out→AV→Prop
 | ix {wh:AV} {g i:Int}:g≠1→g≠3→Cls as wh (.tup [.int g,.int i]) (.wr 1) .none
 | wh {g x y i:Int}:(y=1∨y=3)→g≠4→Cls as (.tup [.int g,.int x]) (.tup [.int y,.int i]) (.wr 1) .none
 | null {y i:Int}:(y=1∨y=3)→Cls as (.tup [.int 4,.int 0]) (.tup [.int y,.int i]) (.thr 21) .none
 | obj {x y i:Int}:(y=1∨y=3)→x∈z0→Cls as (.tup [.int 4,.int x]) (.tup [.int y,.int i]) (.wr 5) .none
 | far {y i:Int}:(y=1∨y=3)→Cls as (.tup [.int 4,.int 5000]) (.tup [.int y,.int i]) (.wr 5) .none
 | oob {a:Arr} {y i:Int}:(y=1∨y=3)→a∈as→(i < 0∨(a.vs.length:Int)≤i)→Cls as (.tup [.int 4,.int a.addr]) (.tup [.int y,.int i]) (.thr 22) .none
 | ok {a:Arr} {y i:Int}:(y=1∨y=3)→a∈as→0≤i∧i < a.vs.length→Cls as (.tup [.int 4,.int a.addr]) (.tup [.int y,.int i]) .ok (.obj a.t)
section
variable {scr:List Int} {d:Nat} {σ:St} {Q:AV→St→Prop} {k s:Int} {rest row:List AV} {n x y:List Nat} {R K:List Ty} {as:List Arr} {wh ix th:AV} {o:Out}
theorem Env.no {x:Int} (e:Env R as σ) (hx:x < 37∨5000≤x):∀ a∈as,a.addr≠x:=fun a ha z=>by
 have:=e.af.rng a ha; omega
theorem yu (c:Cls as wh ix o th) (e:Env R as σ) (q:Q (W3 o) σ):WC (cf scr (d + 2)) 132 [.obj 79,wh,ix] σ Q:=by
 have ho:∀ x∈z0,x < 37∧x≠0:=by decide
 refine za rfl rfl ?_
 cases c with
 | ix h1 h3 =>
  symm
  exact q
 | wh hy hg =>
  rcases hy with rfl | rfl
  all_goals
   symm
   refine za rfl rfl ?_
   symm
   exact q
 | null hy =>
  rcases hy with rfl | rfl
  all_goals
   symm
   refine za rfl rfl ?_
   symm
   exact q
 | obj hy hx =>
  have m:=e.af.miss (e.no (.inl (ho _ hx).1))
  have:=(ho _ hx).2
  rcases hy with rfl | rfl
  all_goals
   symm
   refine za rfl rfl ?_
   symm
   refine zk zv (zx rfl) ?_
   rw [m]
   symm
   exact q
 | far hy =>
  have m:=e.af.miss (e.no (x:=5000) (.inr (by decide)))
  rcases hy with rfl | rfl
  all_goals
   symm
   refine za rfl rfl ?_
   symm
   refine zk zv (zx rfl) ?_
   rw [m]
   symm
   exact q
 | oob hy ha hi =>
  rename_i a y i
  have m:=e.af.hit ha
  have r:=e.af.rng _ ha
  have D:=(e.dyn _ ha).i
  have l5:=(e.el _ ha).2.2
  have lb:(a.vs.map Val.av).length≤big:=by rw [List.length_map]; exact Nat.le_trans l5 (by decide)
  have ll:((a.vs.map Val.av).length:Int)=a.vs.length:=by rw [List.length_map]
  rcases hy with rfl | rfl
  all_goals
   by_cases h0:i < 0
   all_goals
    symm
    refine za rfl rfl ?_
    symm
    refine zk zv (zx rfl) ?_
    rw [m]
    symm
    try (refine zn zv ((zx rfl).trans (congrArg some m)) ?_)
    symm
    exact q
 | ok hy ha hi =>
  rename_i a y i
  have m:=e.af.hit ha
  have r:=e.af.rng _ ha
  have D:=(e.dyn _ ha).i
  have l5:=(e.el _ ha).2.2
  have lb:(a.vs.map Val.av).length≤big:=by rw [List.length_map]; exact Nat.le_trans l5 (by decide)
  have ll:((a.vs.map Val.av).length:Int)=a.vs.length:=by rw [List.length_map]
  rcases hy with rfl | rfl
  all_goals
   symm
   refine za rfl rfl ?_
   symm
   refine zk zv (zx rfl) ?_
   rw [m]
   symm
   refine zn zv ((zx rfl).trans (congrArg some m)) ?_
   symm
   exact q
end
section
variable {scr:List Int} {d:Nat} {σ:St} {Q:AV→St→Prop} {k s:Int} {rest row:List AV} {n x y:List Nat} {R K:List Ty} {as:List Arr} {wh ix th:AV} {o:Out}
theorem Env.kd {i:Nat} (e:Env R as σ) (hi:i < 25):∃ rest,Kd σ.rows i (.int (zH (.base i))::rest):=by
 obtain ⟨r,h⟩:=e.kt.Kds (yX e.kt.wf hi)
 rw [zM e.kt.wf hi] at h
 exact ⟨r,h⟩
theorem Env.akd {a:Arr} (e:Env R as σ) (ha:a∈as):Kd σ.rows (kx R (.arr a.e)) [.int 4,.int (kx R a.e)]:=e.kt.Kd (e.el a ha).2.1
theorem Env.obj {x:Int} (e:Env R as σ) (hx:x∈z0):∃ t k r g z u s rest,ze (.int x) σ.at_=some (.obj t)∧(∀ σ',Rd σ' t (.inst 3 (tF x k r g z u)))∧Kd σ.rows k (.int s::rest)∧s≠4:=by
 have go:∀ (t:Nat) (i:Nat) (r:Nat) (g z u:Int),ze (.int x) at0=some (.obj t)→(∀ σ',Rd σ' t (.inst 3 (tF x i r g z u)))→i < 25→zH (.base i)≠4→∃ t k r g z u s rest,ze (.int x) σ.at_=some (.obj t)∧(∀ σ',Rd σ' t (.inst 3 (tF x k r g z u)))∧Kd σ.rows k (.int s::rest)∧s≠4:=by
  intro t i r g z u a b c f
  obtain ⟨rest,k⟩:=e.kd c
  exact ⟨t,i,r,g,z,u,_,rest,by rw [e.af.at_,J4,a]; rfl,b,k,f⟩
 simp only [z0,List.mem_cons,List.not_mem_nil,or_false] at hx
 rcases hx with rfl | rfl | rfl | rfl | rfl | rfl | rfl
 ·exact go 63 16 62 0 3 1 rfl (fun _=>ze2) (by decide) (by decide)
 ·exact go 65 17 64 0 3 2 rfl (fun _=>zgr) (by decide) (by decide)
 ·exact go 67 18 66 0 3 3 rfl (fun _=>zgK) (by decide) (by decide)
 ·exact go 69 19 68 0 3 4 rfl (fun _=>zft) (by decide) (by decide)
 ·exact go 71 13 70 0 3 5 rfl (fun _=>zfo) (by decide) (by decide)
 ·exact go 73 7 72 0 3 6 rfl (fun _=>zeK) (by decide) (by decide)
 ·exact go 75 21 74 0 3 7 rfl (fun _=>zgb) (by decide) (by decide)
theorem yH (c:Cls as wh ix o th) (e:Env R as σ) (q:Q th (V7 σ o)):WC (cf scr (d + 6)) 103 [.obj 17,wh,ix] σ Q:=by
 have tl:σ.told.length < big:=by rw [e.told]; decide
 have xl:σ.thrown.length < big:=by rw [e.thrown]; decide
 cases c with
 | ix h1 h3=>exact zef e.st tl h1 h3 (by rw [e.told]; exact q)
 | wh hy hg=>exact JQ hy (fun h=>yN (fun h=>qz e.st tl hg h) h) (by rw [e.told]; exact q)
 | null hy=>exact JQ hy (fun h=>yN (fun h=>V0 e.st xl h) h) (by rw [e.thrown]; exact q)
 | obj hy hx =>
  obtain ⟨t,k,r,g,z,u,s,rest,h1,h2,h3,h4⟩:=e.obj hx
  have h0:∀ x∈z0,x≠0:=by decide
  exact JQ hy (fun h=>qn e.st tl (h0 _ hx) h1 (h2 _) h3 h4 h) (by rw [e.told]; exact q)
 | far hy=>exact JQ hy (fun h=>yN (fun h=>VF e.st tl (by decide) (e.af.at_miss (e.no (x:=5000) (.inr (by decide))) (by decide)) h) h) (by rw [e.told]; exact q)
 | oob hy ha hi =>
  rename_i a y i
  have r:=e.af.rng _ ha
  have D:=e.dyn _ ha
  have l5:=(e.el _ ha).2.2
  exact zbN e.st xl hy (by lia) (e.af.at ha) (zu D.t) (e.akd ha) (zu D.s) (by rw [List.length_map]; exact Nat.le_trans l5 (by decide)) (by rw [List.length_map]; exact hi) (by rw [e.thrown]; exact q)
 | ok hy ha hi =>
  rename_i a y i
  have r:=e.af.rng _ ha
  have D:=e.dyn _ ha
  have l5:=(e.el _ ha).2.2
  exact zmB hy (by lia) (e.af.at ha) (zu D.t) (e.akd ha) (zu D.s) (by rw [List.length_map]; exact Nat.le_trans l5 (by decide)) (by rw [List.length_map]; exact hi) q
inductive WhC (as:List Arr):AV→Prop
 | arr {a:Arr}:a∈as→WhC as (.tup [.int 4,.int a.addr])
 | null:WhC as (.tup [.int 4,.int 0])
 | obj {x:Int}:x∈z0→WhC as (.tup [.int 4,.int x])
 | far:WhC as (.tup [.int 4,.int 5000])
 | num {g x:Int}:g≠4→WhC as (.tup [.int g,.int x])
theorem zf7 {j:Int} {m:Nat} {P:Int→Prop} (h:0≤j∧j < m) (k:∀ i < m,P (Int.ofNat i)):P j:=by
 obtain ⟨i,rfl⟩:=Int.eq_ofNat_of_zero_le h.1
 exact k i (Int.ofNat_lt.mp h.2)
theorem zis {z:Int} (ho:σ.order=as.map fun a=>.int a.addr) (hl:as.length≤60) (h0:0 < as.length) (q:∀ wh,WhC as wh→Q wh σ):WC (cf scr (d + 1)) 142 [.obj 79,.int z] σ Q:=by
 have hol:σ.order.length=as.length:=by rw [ho,List.length_map]
 have hob:σ.order.length≤big:=by rw [hol]; exact Nat.le_trans hl (by decide)
 have m:0≤z.fmod 8∧z.fmod 8 < 8:=zS z (m:=8) (by decide)
 refine za rfl rfl ?_
 by_cases h6:z.fmod 8 < 6
 ·symm
  have hm:=zS (z.fdiv 8) (m:=σ.order.length) (hol.symm ▸ h0)
  try refine Sk.mk ?_
  refine Y5 (fun z=>z.elim (Int.ne_of_gt (Int.lt_of_le_of_lt hm.1 hm.2)) fun z=>absurd (Nat.le_trans z hob) (by decide)) ?_
  obtain ⟨a,ha⟩:∃ a,as[((z.fdiv 8).fmod (σ.order.length:Nat)).toNat]?=some a:=⟨_,List.getElem?_eq_getElem (Nat.lt_of_lt_of_eq ((Int.toNat_lt hm.1).mpr hm.2) hol)⟩
  have hv:σ.order[((z.fdiv 8).fmod (σ.order.length:Nat)).toNat]?=some (.int a.addr):=by
   have:∀ j:Nat,as[j]?=some a→σ.order[j]?=some (AV.int a.addr):=fun j hj=>by rw [ho,List.getElem?_map,hj]; rfl
   exact this _ ha
  try refine Sk.mk ?_
  refine Ww zcI ⟨hm.1,Int.lt_of_lt_of_le hm.2 (Int.ofNat_le.mpr hob)⟩ hv ?_
  symm
  exact q _ (.arr (List.mem_of_getElem? ha))
 ·by_cases h7:z.fmod 8=6
  ·symm
   exact q _ .null
  ·symm
   have hm:=zS ((z.fdiv 8).fdiv 4) (m:=7) (by decide)
   have hm:0≤((z.fdiv 8).fdiv 4).fmod 7∧((z.fdiv 8).fdiv 4).fmod 7 < 7:=hm
   have hm4:=zS (z.fdiv 8) (m:=4) (by decide)
   have hm4:0≤(z.fdiv 8).fmod 4∧(z.fdiv 8).fmod 4 < 4:=hm4
   obtain ⟨v,hv⟩:∃ v,z0[(((z.fdiv 8).fdiv 4).fmod 7).toNat]?=some v:=⟨_,List.getElem?_eq_getElem (show _ < 7 from (Int.toNat_lt hm.1).mpr hm.2)⟩
   have hv':Wa[(((z.fdiv 8).fdiv 4).fmod 7).toNat]?=some (.int v):=by
    have e:Wa=z0.map AV.int:=rfl
    rw [e,List.getElem?_map,hv]; rfl
   try refine Sk.mk ?_
   refine zfW zgG (by decide) ?_
   simp_arith
   refine Y5 (by decide) ?_
   simp_arith
   refine Ww zgG ⟨hm.1,Int.lt_trans hm.2 (by decide)⟩ hv' ?_
   symm
   generalize (z.fdiv 8).fmod 4=j at *
   have:j=0∨j=1∨j=2∨j=3:=by lia
   rcases this with rfl | rfl | rfl | rfl
   all_goals
    try refine Sk.mk ?_
    refine qP (by decide) rfl ?_
    symm
   ·exact q _ (.obj (List.mem_of_getElem? hv))
   ·exact q _ (.num (by decide))
   ·exact q _ .far
   ·exact q _ (.num (by decide))
theorem zjj {z l:Int} (hl:0≤l∧l≤100) (q:∀ g i,(g=1∨g=3∨(g=2∧i=0))→Q (.tup [.int g,.int i]) σ):WC (cf scr (d + 2)) 143 [.int z,.int l] σ Q:=by
 have hg':∀ i:Int,1 + 2 * (z.fdiv 8).fmod 2=1∨1 + 2 * (z.fdiv 8).fmod 2=3∨(1 + 2 * (z.fdiv 8).fmod 2=2∧i=0):=fun i =>
  (zf7 (P:=fun r=>1 + 2 * r=1∨1 + 2 * r=3) (zS (z.fdiv 8) (m:=2) (by decide)) (by decide)).imp_right .inl
 have m:0≤z.fmod 8∧z.fmod 8 < 8:=zS z (m:=8) (by decide)
 refine za rfl rfl ?_
 by_cases h4:z.fmod 8 < 4
 ·symm
  refine Y5 (by by_cases hh:1 < l <;> simp only [hh,if_true,if_false] <;> lia) ?_
  symm
  exact q _ _ (hg' _)
 by_cases h5:z.fmod 8=4
 ·symm
  exact q _ _ (hg' _)
 by_cases h6:z.fmod 8=5
 ·symm
  exact q _ _ (hg' _)
 by_cases h7:z.fmod 8=6
 ·symm
  exact q _ _ (hg' _)
 symm
 exact q _ _ (.inr (.inr ⟨rfl,rfl⟩))
end
theorem Y2 {d D:List (Nat×AO)} {r:Nat} (h:Sub d D) (n:zc r D=none):zc r d=none:=by
 cases e:zc r d with
 | none=>rfl
 | some o=>rw [h r o e] at n; cases n
section
variable {scr:List Int} {d:Nat} {σ:St} {Q:AV→St→Prop} {k s:Int} {rest row:List AV} {n x y:List Nat} {R K:List Ty} {as:List Arr} {wh ix th:AV} {o:Out}
theorem yj {c:Int} {r:AV} {D:List (Nat×AO)} {xs:List AV} (ht:σ.told=[]) (hx:σ.thrown=[.int c]) (hk:Dl σ.dyn σ.stk (.list xs)) (hb:xs.length≤big) (hs:Sub D σ.dyn) (hn:zc σ.stk D=none)
  (q:Q (.bool true) { σ with state:=0,told:=[],thrown:=[],dyn:=D }):WC (cf scr (d + 1)) 134 [.obj 79,.int (-2),W3 (.thr c),r] σ Q:=by
 have b1:σ.told.length≤big:=by rw [ht]; exact Nat.le_of_ble_eq_true rfl
 have b2:σ.thrown.length≤big:=by rw [hx]; exact Nat.le_of_ble_eq_true rfl
 have e1:AV.eqbs σ.thrown [.int c]=true:=by rw [hx]; exact AV.eqbs_refl _
 have e2:AV.eqbs σ.told []=true:=by rw [ht]; exact AV.eqbs_refl _
 refine ym rfl rfl ?_
 symm
 refine YT (zu (by right)) (zu (by right)) (by rw [hx]; rfl) ?_
 rw [e1]
 symm
 refine YT (zu (by right)) (zu (by right)) (by rw [ht]; rfl) ?_
 rw [e2]
 symm
 exact zA q (by repeat (first | exact hs | refine zl hn ?_ | refine zl (Y2 hs (by simp_all_arith)) ?_))
theorem yD {c:Int} {r:AV} {D:List (Nat×AO)} {xs:List AV} (ht:σ.told=[.tup [.int c,.int 1,.int 0]]) (hx:σ.thrown=[]) (hk:Dl σ.dyn σ.stk (.list xs)) (hb:xs.length≤big) (hs:Sub D σ.dyn) (hn:zc σ.stk D=none)
  (q:Q (.bool true) { σ with state:=0,told:=[],thrown:=[],dyn:=D }):WC (cf scr (d + 1)) 134 [.obj 79,.int (-2),W3 (.wr c),r] σ Q:=by
 have b1:σ.told.length≤big:=by rw [ht]; exact Nat.le_of_ble_eq_true rfl
 have b2:σ.thrown.length≤big:=by rw [hx]; exact Nat.le_of_ble_eq_true rfl
 have e1:AV.eqbs σ.thrown []=true:=by rw [hx]; exact AV.eqbs_refl _
 have e2:AV.eqbs σ.told [.tup [.int c,.int 1,.int 0]]=true:=by rw [ht]; exact AV.eqbs_refl _
 refine ym rfl rfl ?_
 symm
 refine YT (zu (by right)) (zu (by right)) (by rw [hx]; rfl) ?_
 rw [e1]
 symm
 refine YT (zu (by right)) (zu (by right)) (by rw [ht]; rfl) ?_
 rw [e2]
 symm
 exact zA q (by repeat (first | exact hs | refine zl hn ?_ | refine zl (Y2 hs (by simp_all_arith)) ?_))
theorem Jn {u r:AV} {D:List (Nat×AO)} {xs:List AV} (ho:o≠.ok) (hu:W3 o=u) (ht:σ.told=zjE o) (hx:σ.thrown=zou o) (hk:Dl σ.dyn σ.stk (.list xs)) (hb:xs.length≤big) (hs:Sub D σ.dyn) (hn:zc σ.stk D=none)
  (q:Q (.bool true) { σ with state:=0,told:=[],thrown:=[],dyn:=D }):WC (cf scr (d + 1)) 134 [.obj 79,.int (-2),u,r] σ Q:=by
 subst hu
 cases o with
 | ok=>exact absurd rfl ho
 | thr c=>exact yj ht hx hk hb hs hn q
 | wr c=>exact yD ht hx hk hb hs hn q
theorem yG {r:Nat} {ys:List AV} (hr:Dl σ.dyn r (.list ys)) (hsr:σ.stk≠r) (hyb:ys.length≤10) (hyd:ys.all (zg 6)=true) {D:List (Nat×AO)} {xs:List AV} (ht:σ.told=[]) (hx:σ.thrown=[]) (hk:Dl σ.dyn σ.stk (.list xs)) (hb:xs.length≤big) (hxs:xs=[.tup [.int 1,.int 77]]++ys) (hs:Sub D σ.dyn) (hn:zc σ.stk D=none)
  (q:Q (.bool true) { σ with state:=0,told:=[],thrown:=[],dyn:=D }):WC (cf scr (d + 1)) 134 [.obj 79,.int (-1),W3 .ok,.obj r] σ Q:=by
 have b1:σ.told.length≤big:=by rw [ht]; exact Nat.le_of_ble_eq_true rfl
 have b2:σ.thrown.length≤big:=by rw [hx]; exact Nat.le_of_ble_eq_true rfl
 have e1:AV.eqbs σ.thrown []=true:=by rw [hx]; exact AV.eqbs_refl _
 have e2:AV.eqbs σ.told []=true:=by rw [ht]; exact AV.eqbs_refl _
 refine ym rfl rfl ?_
 symm
 refine YT (zu (by right)) (zu (by right)) (by rw [hx]; rfl) ?_
 rw [e1]
 symm
 refine YT (zu (by right)) (zu (by right)) (by rw [ht]; rfl) ?_
 rw [e2]
 symm
 refine zbf (by left) (zu (by right)) (by simp only [List.length_cons,List.length_nil,big]; lia) ?_
 symm
 refine YT (zu (by right)) (zu (by right)) (by rw [hxs]; simp only [List.all_append,List.all_cons,List.all_nil,hyd]; rfl) ?_
 rw [show AV.eqbs xs ([AV.tup [.int 1,.int 77]]++ys)=true by rw [hxs]; exact AV.eqbs_refl _]
 symm
 exact zA q (by repeat (first | exact hs | refine zl hn ?_ | refine zl (Y2 hs (by simp_all_arith)) ?_))
end
section
variable {scr:List Int} {d:Nat} {σ:St} {Q:AV→St→Prop} {k s:Int} {rest row:List AV} {n x y:List Nat} {R K:List Ty} {as:List Arr} {wh ix th:AV} {o:Out}
theorem Env.lenb {a:Arr} (e:Env R as σ) (ha:a∈as):(a.vs.map Val.av).length≤big∧((a.vs.map Val.av).length:Int)=a.vs.length:=by
 have l5:=(e.el _ ha).2.2
 exact ⟨by rw [List.length_map]; exact Nat.le_trans l5 (by decide),by rw [List.length_map]⟩
theorem zdH (wc:WhC as wh) (e:Env R as σ) (q:∀ r,Q (.bool true) { σ with stk:=r }):WC (cf scr (d + 9)) 141 [.obj 79,wh] σ Q:=by
 have tl:σ.told.length < big:=by rw [e.told]; decide
 have xl:σ.thrown.length < big:=by rw [e.thrown]; decide
 have ho:∀ x∈z0,x < 37∧x≠0:=by decide
 have q':∀ r,Q (.bool true) { σ with stk:=r,state:=0,told:=[],thrown:=[] }:=by
  intro r
  have:=q r
  rw [← Vi e.st e.told e.thrown] at this
  exact this
 have tl':σ.told++[AV.tup [.int 5,.int 1,.int 0]]=[AV.tup [.int 5,.int 1,.int 0]]:=by rw [e.told]; rfl
 have tl1:σ.told++[AV.tup [.int 1,.int 1,.int 0]]=[AV.tup [.int 1,.int 1,.int 0]]:=by rw [e.told]; rfl
 have xl':σ.thrown++[AV.int 21]=[AV.int 21]:=by rw [e.thrown]; rfl
 refine za rfl rfl ?_
 symm
 refine za rfl rfl ?_
 cases wc with
 | arr ha =>
  rename_i a
  have m:=e.af.hit ha
  have r:=e.af.rng _ ha
  have am:=e.af.at ha
  obtain ⟨D1,D2,D3,D4⟩:=e.dyn _ ha
  obtain ⟨lb,ll⟩:=e.lenb ha
  have ak:=e.akd ha
  have a0:a.addr≠0:=by omega
  by_cases h0:a.vs.length=0
  ·symm
   refine zk zv (zx rfl) ?_
   rw [m]
   symm
   refine zn zv ((zx rfl).trans (congrArg some m)) ?_
   symm
   refine zn zv ((zx rfl).trans (congrArg some m)) ?_
   symm
   refine za rfl rfl ?_
   symm
   refine zc8 a0 (by exact am) (by left) (by exact ak) ?_
   symm
   refine yG (D:=σ.dyn) (by right) (by constructor) (Nat.le_of_ble_eq_true rfl) (by rfl) e.told e.thrown (by right) (Nat.le_of_ble_eq_true rfl) rfl (by sizeOf_list_dec) (by simp_all_arith) ?_
   symm
   exact q' _
  ·symm
   refine zk zv (zx rfl) ?_
   rw [m]
   symm
   refine zn zv ((zx rfl).trans (congrArg some m)) ?_
   symm
   refine zn zv ((zx rfl).trans (congrArg some m)) ?_
   symm
   refine za rfl rfl ?_
   symm
   refine zc8 a0 (by exact am) (by left) (by exact ak) ?_
   symm
   refine yG (D:=σ.dyn) (by right) (by constructor) (Nat.le_of_ble_eq_true rfl) (by rfl) e.told e.thrown (by right) (Nat.le_of_ble_eq_true rfl) rfl (by sizeOf_list_dec) (by simp_all_arith) ?_
   symm
   exact q' _
 | null =>
  symm
  refine za rfl rfl ?_
  symm
  refine yN (fun h=>V0 (by exact e.st) (by exact xl) h) ?_
  dsimp only
  symm
  refine yj (c:=21) (D:=σ.dyn) e.told xl' (by right) (Nat.le_of_ble_eq_true rfl) (by sizeOf_list_dec) (by simp_all_arith) ?_
  symm
  exact q' _
 | obj hx =>
  have m:=e.af.miss (e.no (.inl (ho _ hx).1))
  have:=(ho _ hx).2
  obtain ⟨t,k,r,g,z,u,s,rest,h1,h2,h3,h4⟩:=e.obj hx
  symm
  refine zk zv (zx rfl) ?_
  rw [m]
  symm
  refine za rfl rfl ?_
  symm
  refine qn (by exact e.st) (by exact tl) this (by exact h1) (h2 _) (by exact h3) h4 ?_
  dsimp only
  symm
  refine yD (c:=5) (D:=σ.dyn) tl' e.thrown (by right) (Nat.le_of_ble_eq_true rfl) (by sizeOf_list_dec) (by simp_all_arith) ?_
  symm
  exact q' _
 | far =>
  have m:=e.af.miss (e.no (x:=5000) (.inr (by decide)))
  have am:=e.af.at_miss (e.no (x:=5000) (.inr (by decide))) (by decide)
  symm
  refine zk zv (zx rfl) ?_
  rw [m]
  symm
  refine za rfl rfl ?_
  symm
  refine yN (fun h=>VF (by exact e.st) (by exact tl) (by decide) (by exact am) h) ?_
  dsimp only
  symm
  refine yD (c:=5) (D:=σ.dyn) tl' e.thrown (by right) (Nat.le_of_ble_eq_true rfl) (by sizeOf_list_dec) (by simp_all_arith) ?_
  symm
  exact q' _
 | num hg =>
  symm
  refine za rfl rfl ?_
  symm
  refine yN (fun h=>qz (by exact e.st) (by exact tl) hg h) ?_
  dsimp only
  symm
  refine yD (c:=1) (D:=σ.dyn) tl1 e.thrown (by right) (Nat.le_of_ble_eq_true rfl) (by sizeOf_list_dec) (by simp_all_arith) ?_
  symm
  exact q' _
end
noncomputable def zC (t:Ty):Ty:=t.casesOn (fun i=>bif Nat.beq i 21 then .base 5 else .base i) .var .mvar .arr
theorem zaY {t:Ty} (e:t≠.base 21):zC t=t:=by
 induction t using Ty.casesOn with
 | base i=>show (bif Nat.beq i 21 then Ty.base 5 else .base i)=_; rw [Zv fun z=>e (congrArg _ z)]; rfl
 | _=>rfl
theorem zg4 {R:List Ty} (h:Wf R) {t:Ty} (ht:t∈R):kx R (zC t)=zq (kx R t):=by
 by_cases e:t=.base 21
 ·subst e
  show kx R (.base 5)=zq (kx R (.base 21))
  rw [zM h (by decide),zM h (by decide)]; rfl
 ·have n:kx R t≠21:=zgc h ht (i:=21) (by decide) e
  rw [zaY e]; unfold zq; rw [if_neg n]
noncomputable def zrz:Ty→Int
 | .base i=>Zx i
 | _=>0
noncomputable def zrB:Ty→Int
 | .base i=>yq i (zH (.base i))
 | _=>4
theorem zfp {k:Int} (h:12≤k):Zx k=0:=by
 unfold Zx
 simp only [Ku]
 repeat (rw [if_neg (by lia)])
 rfl
theorem zmQ {k:Int} (h:25≤k):yq k 4=4:=by
 unfold yq
 rw [if_neg (by lia),if_neg (by lia),if_neg (by lia),if_neg (by lia)]; rfl
theorem zh5:∀ t∈zm,(match t with | .base i=>decide (i < 24) | .arr _=>true | _=>false)=true:=by decide
theorem Ky {R:List Ty} (h:Wf R) {t:Ty} (ht:t∈zm) (hm:t∈R):(∃ i:Nat,t=.base i∧i < 24∧kx R t=i)∨((t=.arr (.base 16)∨t=.arr (.base 8))∧25≤kx R t∧zH t=4):=by
 have k:=zh5 t ht
 cases t with
 | base i =>
  have hi:=of_decide_eq_true k
  exact .inl ⟨i,rfl,hi,zM h (by lia)⟩
 | arr u =>
  refine .inr ⟨?_,zjL h hm (fun i e=>by cases e),rfl⟩
  have:∀ t∈zm,(match t with | .arr u=>decide (u=.base 16∨u=.base 8) | _=>true)=true:=by decide
  have:=of_decide_eq_true (this _ ht)
  rcases this with rfl | rfl
  ·exact .inl rfl
  ·exact .inr rfl
 | var i=>cases k
 | mvar i=>cases k
theorem Yw {p:Nat→Prop} [DecidablePred p] (h:∀ t∈zm,(match t with | .base i=>decide (p i) | _=>true)=true) {i:Nat} (hi:Ty.base i∈zm):p i:=of_decide_eq_true (h _ hi)
theorem zj0 {R:List Ty} (h:Wf R) {t:Ty} (ht:t∈zm) (hm:t∈R):Zx (zq (kx R t))=(if zd (nm t)=9 then 0 else zd (nm t)):=by
 rcases Ky h ht hm with ⟨i,rfl,hi,e⟩ | ⟨a,b,c⟩
 ·rw [e]
  exact Yw (p:=fun i=>Zx (zq i)=if zd (nm (.base i))=9 then 0 else zd (nm (.base i))) (by decide) ht
 ·have:zq (kx R t)=kx R t:=if_neg (by lia)
  rw [this,zfp (by lia)]
  rcases a with rfl | rfl <;> decide
noncomputable def KZ (s:Int):Int:=if s=0 then 4 else if s=9 then 5 else if s=8 then 2 else if s=5 then 3 else 1
theorem xD {R:List Ty} (h:Wf R) {t:Ty} (ht:t∈zm) (hm:t∈R):yq (zq (kx R t)) (zH (zC t))=KZ (zd (nm t)):=by
 rcases Ky h ht hm with ⟨i,rfl,hi,e⟩ | ⟨a,b,c⟩
 ·rw [e]
  exact Yw (p:=fun i=>yq (zq i) (zH (zC (.base i)))=KZ (zd (nm (.base i)))) (by decide) ht
 ·have:zq (kx R t)=kx R t:=if_neg (by lia)
  have p:zC t=t:=by rcases a with rfl | rfl <;> rfl
  rw [this,p,c,zmQ b]
  rcases a with rfl | rfl <;> decide
theorem WZ {R:List Ty} (h:Wf R) {t u:Ty} (ht:t∈zm) (hm:t∈R) (hu:u∈zm) (hn:u∈R) :
  za7 (zq (kx R t)) (zH (zC t)) (zq (kx R u)) (zH (zC u))=!yn (nm t) (nm u):=by
 unfold za7 yn
 rw [zj0 h ht hm,zj0 h hu hn,xD h ht hm,xD h hu hn]
 have sh:∀ t∈zm,zd (nm t)∈([0,1,2,4,5,8,9]:List Int):=by decide
 have key:∀ a∈([0,1,2,4,5,8,9]:List Int),∀ b∈([0,1,2,4,5,8,9]:List Int),((if a=9 then 0 else a)=(if b=9 then 0 else b)∧KZ a=KZ b)↔a=b:=by decide
 have nine:∀ a∈([0,1,2,4,5,8,9]:List Int),KZ a=5↔a=9:=by decide
 have inj:∀ a∈zm,∀ b∈zm,nm a=nm b→a=b:=by decide
 have kk:=key _ (sh t ht) _ (sh u hu)
 have n9:=nine _ (sh t ht)
 rw [Bool.eq_iff_iff]
 simp only [decide_eq_true_eq,Bool.not_eq_true',decide_eq_false_iff_not,not_or,not_and,Classical.not_not]
 constructor
 ·rintro ⟨a,b,c⟩
  have e:=kk.mp ⟨a,b⟩
  refine ⟨e,fun z=>?_⟩
  rcases c with c | c
  ·have st:∀ t∈zm,zd (nm t)=9→t=.base 22∨t=.base 23:=by decide
   have z':zd (nm u)=9:=by rw [← e]; exact z
   have k22:=zM h (i:=22) (by decide)
   have k23:=zM h (i:=23) (by decide)
   rcases st t ht z with rfl | rfl <;> rcases st u hu z' with rfl | rfl
   ·rfl
   ·rw [k22,k23] at c; exact absurd c (by decide)
   ·rw [k22,k23] at c; exact absurd c (by decide)
   ·rfl
  ·exact absurd (n9.mpr z) c
 ·rintro ⟨e,f⟩
  obtain ⟨a,b⟩:=kk.mpr e
  refine ⟨a,b,?_⟩
  by_cases z:zd (nm t)=9
  ·exact .inl (by rw [inj t ht u hu (f z)])
  ·exact .inr (fun y=>z (n9.mp y))
theorem yZ {g a b:Int} (h:a=b):Val.num g a=.num g b:=by rw [h]
section
variable {g n:Int}
theorem zqH:zT (zq 1) (zH (zC (.base 1))) (.num g n)=zG (nm (.base 1)) (.num g n):=by
 refine (rfl:_=Val.num 1 (n % 256)).trans ((yZ ?_).trans (rfl:Val.num 1 ((n - 0) % 256 + 0)=_))
 lia
theorem zq2:zT (zq 2) (zH (zC (.base 2))) (.num g n)=zG (nm (.base 2)) (.num g n):=by
 refine (rfl:_=Val.num 1 (n % 65536)).trans ((yZ ?_).trans (rfl:Val.num 1 ((n - 0) % 65536 + 0)=_))
 lia
theorem zql:zT (zq 3) (zH (zC (.base 3))) (.num g n)=zG (nm (.base 3)) (.num g n):=by
 refine (rfl:_=Val.num 1 (yf 8 n)).trans ((yZ ?_).trans (rfl:Val.num 1 ((n - (-128)) % 256 + (-128))=_))
 show (n + 128) % 256 - 128=(n - (-128)) % 256 + (-128)
 rw [show n - (-128)=n + 128 by lia]; lia
theorem zqb:zT (zq 4) (zH (zC (.base 4))) (.num g n)=zG (nm (.base 4)) (.num g n):=by
 refine (rfl:_=Val.num 1 (n % 256)).trans ((yZ ?_).trans (rfl:Val.num 1 ((n - 0) % 256 + 0)=_))
 lia
theorem zrb:zT (zq 5) (zH (zC (.base 5))) (.num g n)=zG (nm (.base 5)) (.num g n):=by
 refine (rfl:_=Val.num 1 (yf 16 n)).trans ((yZ ?_).trans (rfl:Val.num 1 ((n - (-32768)) % 65536 + (-32768))=_))
 show (n + 32768) % 65536 - 32768=(n - (-32768)) % 65536 + (-32768)
 rw [show n - (-32768)=n + 32768 by lia]; lia
theorem zqR:zT (zq 6) (zH (zC (.base 6))) (.num g n)=zG (nm (.base 6)) (.num g n):=by
 refine (rfl:_=Val.num 1 (n % 65536)).trans ((yZ ?_).trans (rfl:Val.num 1 ((n - 0) % 65536 + 0)=_))
 lia
theorem zpr:zT (zq 21) (zH (zC (.base 21))) (.num g n)=zG (nm (.base 21)) (.num g n):=by
 refine (rfl:_=Val.num 1 (yf 16 n)).trans ((yZ ?_).trans (rfl:Val.num 1 ((n - (-32768)) % 65536 + (-32768))=_))
 show (n + 32768) % 65536 - 32768=(n - (-32768)) % 65536 + (-32768)
 rw [show n - (-32768)=n + 32768 by lia]; lia
theorem zqK:zT (zq 7) (zH (zC (.base 7))) (.num g n)=zG (nm (.base 7)) (.num g n):=by
 refine (rfl:_=Val.num 1 (yf 32 n)).trans ((yZ ?_).trans (rfl:Val.num 1 ((n - (-2147483648)) % 4294967296 + (-2147483648))=_))
 show (n + 2147483648) % 4294967296 - 2147483648=(n - (-2147483648)) % 4294967296 + (-2147483648)
 rw [show n - (-2147483648)=n + 2147483648 by lia]; lia
theorem zqG:zT (zq 8) (zH (zC (.base 8))) (.num g n)=zG (nm (.base 8)) (.num g n):=by
 refine (rfl:_=Val.num 1 (yf 32 n)).trans ((yZ ?_).trans (rfl:Val.num 1 ((n - (-2147483648)) % 4294967296 + (-2147483648))=_))
 show (n + 2147483648) % 4294967296 - 2147483648=(n - (-2147483648)) % 4294967296 + (-2147483648)
 rw [show n - (-2147483648)=n + 2147483648 by lia]; lia
theorem zq1:zT (zq 9) (zH (zC (.base 9))) (.num g n)=zG (nm (.base 9)) (.num g n):=by
 refine (rfl:_=Val.num 2 (yf 64 n)).trans ((yZ ?_).trans (rfl:Val.num 2 ((n - (-9223372036854775808)) % 18446744073709551616 + (-9223372036854775808))=_))
 show (n + 9223372036854775808) % 18446744073709551616 - 9223372036854775808=(n - (-9223372036854775808)) % 18446744073709551616 + (-9223372036854775808)
 rw [show n - (-9223372036854775808)=n + 9223372036854775808 by lia]; lia
theorem zow:zT (zq 10) (zH (zC (.base 10))) (.num g n)=zG (nm (.base 10)) (.num g n):=by
 refine (rfl:_=Val.num 2 (yf 64 n)).trans ((yZ ?_).trans (rfl:Val.num 2 ((n - (-9223372036854775808)) % 18446744073709551616 + (-9223372036854775808))=_))
 show (n + 9223372036854775808) % 18446744073709551616 - 9223372036854775808=(n - (-9223372036854775808)) % 18446744073709551616 + (-9223372036854775808)
 rw [show n - (-9223372036854775808)=n + 9223372036854775808 by lia]; lia
theorem zoP:zT (zq 11) (zH (zC (.base 11))) (.num g n)=zG (nm (.base 11)) (.num g n):=by
 refine (rfl:_=Val.num 3 (yf 32 n)).trans ((yZ ?_).trans (rfl:Val.num 3 ((n - (-2147483648)) % 4294967296 + (-2147483648))=_))
 show (n + 2147483648) % 4294967296 - 2147483648=(n - (-2147483648)) % 4294967296 + (-2147483648)
 rw [show n - (-2147483648)=n + 2147483648 by lia]; lia
theorem zkS:∀ i∈([1,2,3,4,5,6,21,7,8,9,10,11]:List Nat),zT (zq i) (zH (zC (.base i))) (.num g n)=zG (nm (.base i)) (.num g n) :=
 List.forall_mem_cons.mpr ⟨zqH,List.forall_mem_cons.mpr ⟨zq2,List.forall_mem_cons.mpr ⟨zql,List.forall_mem_cons.mpr ⟨zqb,List.forall_mem_cons.mpr ⟨zrb,List.forall_mem_cons.mpr ⟨zqR,List.forall_mem_cons.mpr ⟨zpr,List.forall_mem_cons.mpr ⟨zqK,List.forall_mem_cons.mpr ⟨zqG,List.forall_mem_cons.mpr ⟨zq1,List.forall_mem_cons.mpr ⟨zow,List.forall_mem_cons.mpr ⟨zoP,fun _ h=>absurd h List.not_mem_nil⟩⟩⟩⟩⟩⟩⟩⟩⟩⟩⟩⟩
theorem zcs {R:List Ty} (h:Wf R) {t:Ty} (ht:t∈zm) (hm:t∈R) {v:Val}:zT (zq (kx R t)) (zH (zC t)) v=zG (nm t) v:=by
 have same:(∀ g n,v≠.num g n)→zT (zq (kx R t)) (zH (zC t)) v=zG (nm t) v:=by
  intro hv
  rw [xV hv]
  cases v <;> first | exact absurd rfl (hv _ _) | rfl
 cases v with
 | num g n =>
  have tg:=xD h ht hm
  by_cases hs:zd (nm t)=0∨zd (nm t)=9
  ·have:ze (.str (nm t)) JR=none:=by
    have:∀ t∈zm,zd (nm t)=0∨zd (nm t)=9→ze (.str (nm t)) JR=none:=by decide
    exact this t ht hs
   rw [qw this]
   delta zT
   rw [tg]
   rcases hs with e | e <;> rw [e] <;> rfl
  ·rcases Ky h ht hm with ⟨i,rfl,hi,e⟩ | ⟨a,b,c⟩
   ·rw [e]
    have:∀ t∈zm,¬ (zd (nm t)=0∨zd (nm t)=9)→t∈([1,2,3,4,5,6,21,7,8,9,10,11]:List Nat).map Ty.base:=by decide
    have:=this _ ht hs
    obtain ⟨j,hj,e⟩:=List.mem_map.mp this
    cases e
    exact zkS _ hj
   ·exact absurd (by rcases a with rfl | rfl <;> decide) hs
 | _=>exact same (by intro g n e; cases e)
theorem Zf {c:Int} {v:Val} {X Y:Bool} (h5:c≠5) (h3:c≠3) (hm:c≠-1):(if c=5 then X else if c=3 then Y else if c=1∧v.tag=3 then true else decide (c≠-1∧v.tag=c))=decide ((c=1∧v.tag=3)∨v.tag=c):=by
 rw [if_neg h5,if_neg h3]
 by_cases q:c=1∧v.tag=3
 ·rw [if_pos q,decide_eq_true (.inl q)]
 ·rw [if_neg q]; exact decide_eq_decide.mpr ⟨fun h=>.inr h.2,fun h=>⟨hm,h.resolve_left q⟩⟩
theorem zbR {v:Val}:decide (((1:Int)=1∧v.tag=3)∨v.tag=1)=decide (v.tag=1∨v.tag=3):=decide_eq_decide.mpr ⟨fun h=>h.elim (fun z=>.inr z.2) .inl,fun h=>h.elim .inr fun z=>.inl ⟨rfl,z⟩⟩
theorem zbU {R:List Ty} (h:Wf R) {t:Ty} (ht:t∈zm) (hm:t∈R) {v:Val}:Za (zq (kx R t)) (zH (zC t)) v=yd (nm t) (kx R t) v:=by
 unfold Za yd
 rw [xD h ht hm]
 have sh:∀ t∈zm,zd (nm t)∈([0,1,2,4,5,8,9]:List Int):=by decide
 have hs:=sh t ht
 have pl:zd (nm t)=9→zq (kx R t)=kx R t:=by
  intro z
  have st:∀ t∈zm,zd (nm t)=9→t=.base 22∨t=.base 23:=by decide
  rcases st t ht z with rfl | rfl
  ·rw [zM h (by decide)]; rfl
  ·rw [zM h (by decide)]; rfl
 generalize zd (nm t)=s at *
 simp only [List.mem_cons,List.not_mem_nil,or_false] at hs
 rcases hs with rfl | rfl | rfl | rfl | rfl | rfl | rfl
 ·exact (Zf (c:=4) (by decide) (by decide) (by decide)).trans (decide_eq_decide.mpr ⟨fun h=>h.resolve_left fun z=>absurd z.1 (by decide),.inr⟩)
 ·exact (Zf (c:=1) (by decide) (by decide) (by decide)).trans zbR
 ·exact (Zf (c:=1) (by decide) (by decide) (by decide)).trans zbR
 ·exact (Zf (c:=1) (by decide) (by decide) (by decide)).trans zbR
 ·exact (decide_eq_decide.mpr or_left_comm:decide (v.tag=3∨v.tag=1∨v.tag=7)=decide (v.tag=1∨v.tag=3∨v.tag=7))
 ·exact (Zf (c:=2) (by decide) (by decide) (by decide)).trans (decide_eq_decide.mpr ⟨fun h=>h.resolve_left fun z=>absurd z.1 (by decide),.inr⟩)
 ·rw [pl rfl]; cases v <;> rfl
theorem jU {R:List Ty} (h:Wf R) {t:Ty} (ht:t∈zm) (hm:t∈R):Kz (kx R t) (zH t)=!decide (zd (nm t)=0):=by
 rcases Ky h ht hm with ⟨i,rfl,hi,e⟩ | ⟨a,b,c⟩
 ·rw [e]
  exact Yw (p:=fun i=>Kz i (zH (.base i))=!decide (zd (nm (.base i))=0)) (by decide) ht
 ·rw [c]
  have:Kz (kx R t) 4=false:=decide_eq_false (by lia)
  rw [this]
  rcases a with rfl | rfl <;> decide
noncomputable def Jb (n:List Nat) (k:Int):Val:=if zd n=0 then .ref 0 else if zd n=9 then .st k 0 0 else zG n (.num 1 0)
theorem zny {R:List Ty} (h:Wf R) {t:Ty} (ht:t∈zm) (hm:t∈R):Vz (kx R t)=Jb (nm t) (kx R t):=by
 rcases Ky h ht hm with ⟨i,rfl,hi,e⟩ | ⟨a,b,c⟩
 ·rw [e]
  exact Yw (p:=fun i=>Vz i=Jb (nm (.base i)) i) (by decide) ht
 ·have d1:Vz (kx R t)=.ref 0:=by
   have p1:zq (kx R t)=kx R t:=if_neg (by lia)
   unfold Vz Y7
   rw [if_neg (by lia),p1,if_neg (by lia),if_neg (by lia),if_neg (by lia)]
  have d2:zd (nm t)=0:=by rcases a with rfl | rfl <;> decide
  rw [d1]; unfold Jb; rw [if_pos d2]
end
section
variable {scr:List Int} {d:Nat} {σ:St} {Q:AV→St→Prop} {k s:Int} {rest row:List AV} {n x y:List Nat} {R K:List Ty} {as:List Arr} {wh ix th:AV} {o:Out}
theorem Env.move {σ':St} (e:Env R as σ) (h1:σ'.rows=σ.rows) (h2:σ'.index=σ.index) (h3:σ'.depths=σ.depths) (h4:σ'.opens=σ.opens) (h5:σ'.arrays=σ.arrays) (h6:σ'.at_=σ.at_) (h7:σ'.order=σ.order) (h8:σ'.state=σ.state) (h9:σ'.told=σ.told) (h10:σ'.thrown=σ.thrown)
  (hd:∀ a∈as,Wz R σ.dyn a→Wz R σ'.dyn a):Env R as σ' :=
 ⟨e.kt.of h1 h2 h3 h4,⟨h5.trans e.af.arrays,h6.trans e.af.at_,h7.trans e.af.order,e.af.nd,e.af.rng,e.af.len⟩,fun a ha=>hd a ha (e.dyn a ha),e.el,h8.trans e.st,h9.trans e.told,h10.trans e.thrown⟩
theorem Cls.none (c:Cls as wh ix o th) (h:o≠.ok):th=.none:=by
 cases c <;> first | rfl | exact absurd rfl h
theorem yl (c:Cls as wh ix o th) (ho:o≠.ok) (e:Env R as σ) (q:Q .none (V5 σ o)):WC (cf scr (d + 6)) 103 [.obj 17,wh,ix] σ Q :=
 yH c e (by rw [zeN e.told e.thrown ho,c.none ho]; exact q)
theorem zkZ (h:Wf R) {t:Ty} (hm:t∈R):zC t∈R:=by
 by_cases e:t=.base 21
 ·rw [e]; exact yX h (by decide)
 ·rw [zaY e]; exact hm
theorem zV:∀ t∈zm,zH (zC t)=1∨zH (zC t)=2∨zH (zC t)=3∨zH (zC t)=4∨zH (zC t)=6∨zH (zC t)=7:=by decide
theorem zaz (v:Val):zg 6 v.av=true:=by cases v <;> rfl
theorem zdo {v:Val} (_:v.ok):zg 6 (zG n v).av=true:=zaz _
theorem Kk (h:Wf R) {t:Ty} (hm:t∈R):∃ rest,Kd (R.map fun t=>.tup (ya R t)) (zq (kx R t)) (.int (zH (zC t))::rest):=by
 have:=(KT.set (σ:=⟨⟨[],[],[],[]⟩,⟨0,0,0,[],[],[]⟩,⟨0,[],[],[]⟩,⟨[],[],[],[],0,0⟩,0,0,[]⟩) h).Kds (zkZ h hm)
 rw [zg4 h hm] at this
 exact this
theorem zbT {R':List Ty} {t:Ty} (x:Ex R R') (hm:.arr t∈R):Kd (R'.map fun t=>.tup (ya R' t)) (kx R (.arr t)) [.int 4,.int (kx R' t)]:=by
 have:=(KT.set (σ:=⟨⟨[],[],[],[]⟩,⟨0,0,0,[],[],[]⟩,⟨0,[],[],[]⟩,⟨[],[],[],[],0,0⟩,0,0,[]⟩) x.wf).Kd (x.mem hm)
 rw [x.kx hm] at this
 exact this
theorem ziR {t w:Ty} (c:Cls as wh ix o th) (e:Env R as σ) (kn:KN R K σ) (ht:t∈zm) (hw:w∈R) (hc:zQ w=t) (vok:∀ a∈as,∀ v∈a.vs,v.ok)
  (q:∀ R' r,Ex R R'→KT R' (σ.setN R' K)→Q (.bool true) { σ.setN R' K with stk:=r }):WC (cf scr (d + 14)) 138 [.obj 79,wh,ix,.str (nm t),.int (kx R w)] σ Q:=by
 have q0:∀ r,Q (.bool true) { σ with stk:=r,state:=0,told:=[],thrown:=[] }:=by
  intro r
  have:=q R r (.refl e.kt.wf) (by rw [kn.self e.kt]; exact e.kt)
  rw [kn.self e.kt] at this
  dsimp only at this
  rw [← Vi e.st e.told e.thrown] at this
  exact this
 have q2:∀ R' r,Ex R R'→Q (.bool true) { σ.setK R' with stk:=r,state:=0,told:=[],thrown:=[] }:=by
  intro R' r x
  have:=q R' r x (by rw [← YN kn x]; exact KT.set x.wf)
  rw [← YN kn x] at this
  dsimp only [St.setK] at this ⊢
  rw [← Vi e.st e.told e.thrown] at this
  exact this
 have tl':σ.told++[AV.tup [.int 5,.int 1,.int 0]]=[AV.tup [.int 5,.int 1,.int 0]]:=by rw [e.told]; rfl
 refine za rfl rfl ?_
 symm
 refine yu c e ?_
 by_cases ho:o=.ok
 ·subst ho
  cases c with
  | ok hy ha hi =>
   rename_i a y i
   have m:=e.af.hit ha
   obtain ⟨D1,D2,D3,D4⟩:=e.dyn _ ha
   obtain ⟨lb,ll⟩:=e.lenb ha
   obtain ⟨ae,ar,l5⟩:=e.el _ ha
   have se:=(zK (zL _ ae).1).1
   have sn:=(zK (zL _ ht).1).1
   have hst:=e.st
   have tl:σ.told.length < big:=by rw [e.told]; decide
   obtain ⟨v,hv⟩:∃ v,a.vs[i.toNat]?=some v:=⟨_,List.getElem?_eq_getElem (by lia)⟩
   have hv':(a.vs.map Val.av)[i.toNat]?=some v.av:=by rw [List.getElem?_map,hv]; rfl
   have i6:0≤i∧i < 1000000:=by lia
   have hy':0≤y∧y < 4:=by lia
   symm
   refine zn zv ((zx rfl).trans (congrArg some m)) ?_
   symm
   refine J2 se sn ?_
   cases hu:yn (nm a.e) (nm t) with
   | true =>
    symm
    refine za rfl rfl ?_
    symm
    refine yH (.ok hy ha hi) (e.move rfl rfl rfl rfl rfl rfl rfl rfl rfl rfl fun a ha z1c=>by obtain ⟨D1,D2,D3,D4⟩:=z1c; exact ⟨by right,by right,by right,by right⟩) ?_
    dsimp only [V7]
    symm
    refine yV (R:=R) (w:=w) (e.kt.of rfl rfl rfl rfl) hw fun R' x1 x2 x3=>?_
    have aR:a.e∈R':=x1.mem (e.kt.wf.clo _ ar)
    have ak':=zbT x1 ar
    rw [hc] at x2 ⊢
    obtain ⟨r1,k1⟩:=Kk x1.wf aR
    obtain ⟨r2,k2⟩:=Kk x1.wf x2
    have sm:=WZ x1.wf ae aR ht x2
    rw [hu] at sm
    dsimp only [St.setK]
    symm
    refine WN k1 (zV _ ae) k2 (zV _ ht) ?_
    rw [sm]
    symm
    dsimp only
    try refine Sk.mk ?_
    refine yD (c:=5) (D:=σ.dyn) tl' e.thrown (by right) (Nat.le_of_ble_eq_true rfl) (by sizeOf_list_dec) (by simp_all_arith) ?_
    symm
    exact q2 R' _ x1
   | false =>
    have ok:v.ok:=vok a ha v (List.mem_of_getElem? hv)
    symm
    refine Ka sn ok ?_
    symm
    refine za rfl rfl ?_
    symm
    refine yH (.ok hy ha hi) (e.move rfl rfl rfl rfl rfl rfl rfl rfl rfl rfl fun a ha z2c=>by obtain ⟨D1,D2,D3,D4⟩:=z2c; exact ⟨by right,by right,by right,by right⟩) ?_
    dsimp only [V7]
    symm
    refine yV (R:=R) (w:=w) (e.kt.of rfl rfl rfl rfl) hw fun R' x1 x2 x3=>?_
    have aR:a.e∈R':=x1.mem (e.kt.wf.clo _ ar)
    have ak':=zbT x1 ar
    rw [hc] at x2 ⊢
    obtain ⟨r1,k1⟩:=Kk x1.wf aR
    obtain ⟨r2,k2⟩:=Kk x1.wf x2
    have sm:=WZ x1.wf ae aR ht x2
    rw [hu] at sm
    dsimp only [St.setK]
    symm
    refine WN k1 (zV _ ae) k2 (zV _ ht) ?_
    rw [sm]
    symm
    refine Zl k2 (zV _ ht) ok ?_
    rw [zcs x1.wf ht x2]
    symm
    refine yG (D:=σ.dyn) (by right) (by constructor) (Nat.le_of_ble_eq_true rfl) (by simp only [List.all_cons,List.all_nil,zdo ok]; rfl) e.told e.thrown (by right) (Nat.le_of_ble_eq_true rfl) rfl (by sizeOf_list_dec) (by simp_all_arith) ?_
    symm
    exact q2 R' _ x1
 ·obtain ⟨w',c',hu,hw'⟩:=zbt ho
  rw [hu]
  symm
  refine za rfl rfl ?_
  symm
  refine yl c ho (e.move rfl rfl rfl rfl rfl rfl rfl rfl rfl rfl fun a ha z3c=>by obtain ⟨D1,D2,D3,D4⟩:=z3c; exact ⟨by right,by right,by right,by right⟩) ?_
  dsimp only [V5]
  symm
  refine Jn ho hu (D:=σ.dyn) rfl rfl (by right) (Nat.le_of_ble_eq_true rfl) (by sizeOf_list_dec) (by simp_all_arith) ?_
  symm
  exact q0 _
end
section
variable {scr:List Int} {d:Nat} {σ:St} {Q:AV→St→Prop} {k s:Int} {rest row:List AV} {n x y:List Nat} {R K:List Ty} {as:List Arr} {wh ix th:AV} {o:Out}
noncomputable def Yr (x:Int):Ty:=if x=16 then .base 16 else if x=19 then .base 17 else if x=22 then .base 18 else if x=25 then .base 19 else if x=28 then .base 13 else if x=31 then .base 7 else .base 21
inductive ExT (as:List Arr):Int→Ty→Prop
 | arr {a:Arr}:a∈as→ExT as a.addr (.arr a.e)
 | obj {x:Int}:x∈z0→ExT as x (Yr x)
theorem ExT.of {x:Int} (h:V4 as x) (n:x≠0):∃ t,ExT as x t:=by
 rcases h with h | h | ⟨a,ha,rfl⟩
 ·exact absurd h n
 ·exact ⟨_,.obj h⟩
 ·exact ⟨_,.arr ha⟩
theorem ExT.nmd {x:Int} {t:Ty} (h:ExT as x t) (e:Env R as σ):t∈Nmd∧dep t≤3:=by
 cases h with
 | arr ha =>
  have:∀ t∈zm,Ty.arr t∈Nmd∧dep (.arr t)≤3:=by decide
  exact this _ (e.el _ ha).1
 | obj hx =>
  have:∀ x∈z0,Yr x∈Nmd∧dep (Yr x)≤3:=by decide
  exact this _ hx
theorem jz {x:Int} {t:Ty} (h:ExT as x t) (e:Env R as σ) (q:Q (.str (nm t)) σ):WC (cf scr (d + 1)) 135 [.obj 79,.int x] σ Q:=by
 refine za rfl rfl ?_
 cases h with
 | arr ha =>
  rename_i a
  have m:=e.af.hit ha
  have se:=(zK (zL _ (e.el _ ha).1).1).1
  have sl:(nm a.e).length≤10:=by
   have:∀ t∈zm,(nm t).length≤10:=by decide
   exact this _ (e.el _ ha).1
  symm
  refine zk zv (zx rfl) ?_
  rw [m]
  symm
  refine zn zv ((zx rfl).trans (congrArg some m)) ?_
  symm
  refine ze4 (by simp; lia) ?_
  symm
  exact q
 | obj hx =>
  have ho:∀ x∈z0,x < 37:=by decide
  have m:=e.af.miss (e.no (.inl (ho _ hx)))
  have ex:ze (.int x) zb7=some (.str (nm (Yr x))):=by
   simp only [z0,List.mem_cons,List.not_mem_nil,or_false] at hx
   rcases hx with rfl | rfl | rfl | rfl | rfl | rfl | rfl <;> rfl
  symm
  refine zk zv (zx rfl) ?_
  rw [m]
  symm
  refine zn zop ((zt rfl).trans (congrArg some ex)) ?_
  symm
  exact q
theorem qT {e n:List Nat} (he:sOk e=true) (hn:sOk n=true) (hl:e.length < 8) (q:Q (.bool (yE 4 e n)) σ):WC (cf scr (d + 6)) 123 [.str e,.str n] σ Q:=by
 rw [show d + 6=4 + d + 2 by lia]
 exact zgy (f:=4) he hn hl q
theorem je {t:Ty} (ht:t∈Nmd) (hd:dep t≤3) (hk:KT R σ) (hn:KN R K σ)
  (q:∀ R' K',Ex R R'→t∈K'→(∀ u∈K,u∈K')→KT R' (σ.setN R' K')→KN R' K' (σ.setN R' K')→Q (.int (kx R' t)) (σ.setN R' K')):WC (cf scr (d + 9)) 124 [.obj 79,.str (nm t)] σ Q:=by
 rw [show d + 9=3 + d + 6 by lia]
 exact zca (f:=3) ht hd hk hn fun R' K' a b c _ e g=>q R' K' a b c e g
theorem YH:∀ t∈Nmd,(nm t).length < 8:=by decide
theorem zlB {x:Int} {t u:Ty} (h:ExT as x t) (e:Env R as σ) (hu:u∈zm) (hg:yE 4 (nm t) (nm u)=false) (q:Q (.bool false) σ):WC (cf scr (d + 10)) 136 [.obj 79,(Val.ref x).av,.str (nm u)] σ Q:=by
 obtain ⟨hm,hd⟩:=h.nmd e
 refine za rfl rfl ?_
 symm
 refine jz h e ?_
 symm
 refine qT (zK hm).1 (zK (zL _ hu).1).1 (YH _ hm) ?_
 rw [hg]
 symm
 exact q
theorem zkL {x:Int} {t u:Ty} (h:ExT as x t) (e:Env R as σ) (kn:KN R K σ) (hu:u∈zm) (hg:yE 4 (nm t) (nm u)=true) (hb:σ.kin.length < big)
  (q:∀ R' K',Ex R R'→t∈K'→u∈K'→KT R' (σ.setN R' K')→KN R' K' (σ.setN R' K')→Q (.bool true) { σ.setN R' K' with kin:=zB (.tup [.int (kx R' t),.int (kx R' u)]) (.int 1) σ.kin }):WC (cf scr (d + 10)) 136 [.obj 79,(Val.ref x).av,.str (nm u)] σ Q:=by
 obtain ⟨hm,hd⟩:=h.nmd e
 obtain ⟨um,ud⟩:=zL _ hu
 refine za rfl rfl ?_
 symm
 refine jz h e ?_
 symm
 refine qT (zK hm).1 (zK um).1 (YH _ hm) ?_
 rw [hg]
 symm
 refine je hm hd e.kt kn fun R1 K1 a1 b1 c1 d1 e1=>?_
 symm
 refine je um (by lia) d1 e1 fun R2 K2 a2 b2 c2 d2 e2=>?_
 symm
 have f:=q R2 K2 (a1.trans a2) (c2 _ b1) b2 d2 e2
 rw [a2.kx (e1.sub _ b1)] at f
 exact f
end
theorem Ki {j k v:AV}:∀ {es:List (AV×AV)},ze k (zB j v es)=if j=k then some v else ze k es
 | []=>by
  show (match AV.eqb j k with | true=>some v | false=>none)=if j=k then some v else none
  by_cases e:j=k
  ·subst e; rw [AV.eqb_refl,if_pos rfl]
  ·have:AV.eqb j k=false:=by cases q:AV.eqb j k with | false=>rfl | true=>exact absurd (AV.eqb_eq q) e
   rw [this,if_neg e]
 | (i,u)::es=>by
  rw [ju]
  cases h:AV.eqb i j with
  | true =>
   have:=AV.eqb_eq h; subst this
   dsimp only
   rw [yJ]
   by_cases e:i=k
   ·subst e; rw [AV.eqb_refl,if_pos rfl]
   ·have h2:AV.eqb i k=false:=by cases q:AV.eqb i k with | false=>rfl | true=>exact absurd (AV.eqb_eq q) e
    rw [h2,if_neg e]; dsimp only; rw [yJ,h2]
  | false =>
   dsimp only
   rw [yJ,yJ,Ki]
   cases h2:AV.eqb i k with
   | true =>
    have:=AV.eqb_eq h2; subst this
    dsimp only
    have:j≠i:=by rintro rfl; rw [AV.eqb_refl] at h; cases h
    rw [if_neg this]
   | false=>rfl
theorem xk {j v:AV}:∀ {es:List (AV×AV)},(zB j v es).length≤es.length + 1
 | []=>Nat.le_refl 1
 | (i,u)::es=>by
  rw [ju]
  cases AV.eqb i j with
  | true=>simp
  | false=>have:=@xk j v es; simp; omega
noncomputable def KI (R:List Ty) (σ:St):Prop:=∀ k v,ze k σ.kin=some v→∃ t u,t∈R∧u∈R∧k=.tup [.int (kx R t),.int (kx R u)]∧yE 4 (nm t) (nm u)=true
section
variable {scr:List Int} {d:Nat} {σ:St} {Q:AV→St→Prop} {k s:Int} {rest row:List AV} {n x y:List Nat} {R K:List Ty} {as:List Arr} {wh ix th:AV} {o:Out}
theorem KI.ext {R':List Ty} {σ':St} (h:KI R σ) (x:Ex R R') (e:σ'.kin=σ.kin):KI R' σ':=by
 intro k v hk
 rw [e] at hk
 obtain ⟨t,u,a,b,c,g⟩:=h k v hk
 exact ⟨t,u,x.mem a,x.mem b,by rw [c,x.kx a,x.kx b],g⟩
theorem KI.add {R':List Ty} {σ':St} {t u:Ty} {v:AV} (h:KI R σ) (x:Ex R R') (ht:t∈R') (hu:u∈R') (g:yE 4 (nm t) (nm u)=true) (e:σ'.kin=zB (.tup [.int (kx R' t),.int (kx R' u)]) v σ.kin):KI R' σ':=by
 intro k w hk
 rw [e,Ki] at hk
 split at hk
 ·rename_i z; exact ⟨t,u,ht,hu,z.symm,g⟩
 ·exact (h.ext x (σ':=σ) rfl) k w hk
theorem KI.no {t u:Ty} (h:KI R σ) (ht:t∈R) (hu:u∈R) (g:yE 4 (nm t) (nm u)=false):ze (.tup [.int (kx R t),.int (kx R u)]) σ.kin=none:=by
 cases e:ze (.tup [.int (kx R t),.int (kx R u)]) σ.kin with
 | none=>rfl
 | some v =>
  obtain ⟨t',u',a,b,c,g'⟩:=h _ _ e
  simp only [AV.tup.injEq,List.cons.injEq,AV.int.injEq,and_true] at c
  rw [Vp ht a c.1,Vp hu b c.2] at g
  rw [g'] at g; cases g
noncomputable def isA (a b:Int) (kin:List (AV×AV)):Bool:=decide (a=b∨b=12∨(ze (.tup [.int a,.int b]) kin).isSome=true)
theorem zkU {a b:Int} (q:Q (.bool (isA a b σ.kin)) σ):WC (cf scr (d + 1)) 75 [.obj 17,.int a,.int b] σ Q:=by
 refine za rfl rfl ?_
 generalize hf:isA a b σ.kin=f at q
 unfold isA at hf
 by_cases h1:a=b
 ·symm
  exact Qb q (hf.symm.trans (by simp [h1]))
 by_cases h2:b=12
 ·symm
  exact Qb q (hf.symm.trans (by simp [h2]))
 symm
 refine zk zjP (zx rfl) ?_
 symm
 exact Qb q (hf.symm.trans (by simp [h1,h2]))
theorem zij {x b k' g z u:Int} {t r:Nat} (hm:ze (.int x) σ.at_=some (.obj t)) (ht:Rd σ t (.inst 3 (tF x k' r g z u))) (q:Q (.bool (isA k' b σ.kin)) σ):WC (cf scr (d + 2)) 111 [.obj 17,(Val.ref x).av,.int b] σ Q:=by
 refine za rfl rfl ?_
 symm
 refine zk Zo (zt rfl) ?_
 rw [hm]
 symm
 refine Kx ht rfl rfl ?_
 symm
 refine zkU ?_
 symm
 exact q
theorem zig {b:Int} (q:Q (.bool true) σ):WC (cf scr (d + 3)) 107 [.obj 17,(Val.ref 0).av,.int b] σ Q:=by
 refine za rfl rfl ?_
 symm
 exact q
theorem zlf {x b k' g z u:Int} {t r:Nat} (h0:x≠0) (hm:ze (.int x) σ.at_=some (.obj t)) (ht:Rd σ t (.inst 3 (tF x k' r g z u))) (q:Q (.bool (isA k' b σ.kin)) σ):WC (cf scr (d + 3)) 107 [.obj 17,(Val.ref x).av,.int b] σ Q:=by
 refine za rfl rfl ?_
 symm
 refine zij hm ht ?_
 symm
 exact q
theorem qt:∀ i < 22,∃ t∈zm,(([.str [98],.str [97],.str [111],.str [99],.str [105],.str [116],.str [105,52],.str [117,52],.str [117,49],.str [105,49],.str [98,111,111,108],.str [99,104,97,114],.str [105,50],.str [117,50],.str [101],.str [105,56],.str [110,105,110,116],.str [115],.str [97,91,93],.str [117,52,91,93],.str [117,56],.str [115,50]]:List AV)[i]?)=some (.str (nm t)):=by decide
theorem ziX {z:Int} (wc:WhC as wh) (e:Env R as σ) (q:∀ t∈zm,Q (.str (nm t)) σ):WC (cf scr (d + 2)) 144 [.obj 79,wh,.int z] σ Q:=by
 have m22:∀ w:Int,0≤w.fmod 22∧w.fmod 22 < 22:=fun w=>zS w (m:=22) (by decide)
 have m4:0≤z.fmod 4∧z.fmod 4 < 4:=zS z (m:=4) (by decide)
 have ho:∀ x∈z0,x < 37:=by decide
 have el:∀ w:Int,∃ t∈zm,(([.str [98],.str [97],.str [111],.str [99],.str [105],.str [116],.str [105,52],.str [117,52],.str [117,49],.str [105,49],.str [98,111,111,108],.str [99,104,97,114],.str [105,50],.str [117,50],.str [101],.str [105,56],.str [110,105,110,116],.str [115],.str [97,91,93],.str [117,52,91,93],.str [117,56],.str [115,50]]:List AV)[(w.fmod 22).toNat]?)=some (.str (nm t)):=fun w=>qt _ (by have:=m22 w; omega)
 obtain ⟨t1,ht1,e1⟩:=el z
 have b1:0≤z.fmod 22∧z.fmod 22 < 1000000:=by have:=m22 z; omega
 refine ym rfl rfl ?_
 cases wc with
 | num hg =>
  symm
  exact ZK (q t1 ht1)
 | null =>
  have m:=e.af.miss (e.no (x:=0) (.inl (by decide)))
  symm
  refine zk zv (zx rfl) ?_
  rw [m]
  symm
  exact ZK (q t1 ht1)
 | far =>
  have m:=e.af.miss (e.no (x:=5000) (.inr (by decide)))
  symm
  refine zk zv (zx rfl) ?_
  rw [m]
  symm
  exact ZK (q t1 ht1)
 | obj hx =>
  have m:=e.af.miss (e.no (.inl (ho _ hx)))
  symm
  refine zk zv (zx rfl) ?_
  rw [m]
  symm
  exact ZK (q t1 ht1)
 | arr ha =>
  rename_i a
  have m:=e.af.hit ha
  have ae:=(e.el _ ha).1
  have se:=(zK (zL _ ae).1).1
  obtain ⟨t2,ht2,e2⟩:=el (z.fdiv 4)
  have b2:0≤(z.fdiv 4).fmod 22∧(z.fdiv 4).fmod 22 < 1000000:=by have:=m22 (z.fdiv 4); omega
  by_cases h3:z.fmod 4=3
  ·symm
   refine zk zv (zx rfl) ?_
   rw [m]
   symm
   refine zn zv ((zx rfl).trans (congrArg some m)) ?_
   symm
   exact ZK (q t2 ht2)
  by_cases h2:z.fmod 4=2
  ·symm
   refine zk zv (zx rfl) ?_
   rw [m]
   symm
   refine zn zv ((zx rfl).trans (congrArg some m)) ?_
   symm
   refine za rfl rfl ?_
   symm
   refine zk (zu (by right)) (zt (es:=j5) (yc se)) ?_
   have oth:∀ t∈zm,∃ u∈zm,(ze (.str (nm t)) j5).getD (.str (nm t))=.str (nm u):=by decide
   obtain ⟨u,hu,e3⟩:=oth _ ae
   refine Zn (r:=ze (.str (nm a.e)) j5) ?_
   rw [e3]
   symm
   exact zA (q u hu) (by sizeOf_list_dec)
  ·symm
   refine zk zv (zx rfl) ?_
   rw [m]
   symm
   refine zn zv ((zx rfl).trans (congrArg some m)) ?_
   symm
   exact ZK (q _ ae)
end
section
variable {scr:List Int} {d:Nat} {σ:St} {Q:AV→St→Prop} {k s:Int} {rest row:List AV} {n x y:List Nat} {R K:List Ty} {as:List Arr} {wh ix th:AV} {o:Out}
theorem WP {a:Arr} {i:Int} {v:Val} (m:ze (.int a.addr) σ.arrays=some (.tup [.str (nm a.e),.obj a.i,.obj a.g])) (hi:Dl σ.dyn a.i (.list (a.vs.map Val.av))) (hg:Dl σ.dyn a.g (.list [.int a.gen])) (ne:a.i≠a.g)
  (h:0≤i∧i < a.vs.length∧i < 1000000) (hv:v.ok) (hb:0≤σ.bits∧σ.bits≤3) (hc:σ.wcards.length < big)
  (q:Q .none { σ with wcards:=if a.gen > 0∧zE v=true then zB (.int (zZ σ.bits a.addr i)) (.int 1) σ.wcards else σ.wcards,dyn:=zf a.i (.list ((a.vs.map Val.av).set i.toNat v.av)) σ.dyn }) :
  WC (cf scr (d + 2)) 131 [.obj 79,.int a.addr,.int i,v.av] σ Q:=by
 have hl:0≤i∧i < ((a.vs.map Val.av).length:Int)∧i < 1000000:=by rw [List.length_map]; exact h
 refine za rfl rfl ?_
 symm
 refine zn zv ((zx rfl).trans (congrArg some m)) ?_
 symm
 refine YC (by right) hl ?_
 try dsimp only
 by_cases g0:a.gen > 0
 ·symm
  cases hh:zE v with
  | true =>
   rw [if_pos ⟨g0,hh⟩] at q
   symm
   refine ze8 ⟨by decide,hb.1,by dsimp only; lia⟩ ?_
   dsimp only
   have hp:(0:Int) < 2 ^ σ.bits.toNat:=Int.pow_pos (by decide)
   have h8:(2:Int) ^ σ.bits.toNat≤8:=by
    have:(2:Nat) ^ σ.bits.toNat≤2 ^ 3:=Nat.pow_le_pow_right (by decide) (by lia)
    exact_mod_cast this
   try refine Sk.mk ?_
   refine zfj (by lia) ?_
   symm
   exact q
  | false =>
   rw [if_neg (fun x=>by rw [hh] at x; cases x.2)] at q
   symm
   exact q
 ·rw [if_neg (fun x=>g0 x.1)] at q
  symm
  exact q
end
noncomputable def St.setA (σ:St) (R K:List Ty) (kn:List (AV×AV)):St:={ σ.setN R K with kin:=kn }
structure Bd (R K:List Ty) (as:List Arr) (N:Nat) (σ:St):Prop where
 env:Env R as σ
 kn:KN R K σ
 ki:KI R σ
 kl:σ.kin.length≤N
section
variable {scr:List Int} {d:Nat} {σ:St} {Q:AV→St→Prop} {k s:Int} {rest row:List AV} {n x y:List Nat} {R K:List Ty} {as:List Arr} {wh ix th:AV} {o:Out} {N:Nat}
theorem Wz.ext {R':List Ty} {D:List (Nat×AO)} {a:Arr} (h:Wz R D a) (x:Ex R R') (m:.arr a.e∈R):Wz R' D a:=⟨by rw [x.kx m]; exact h.t,h.s,h.i,h.g⟩
theorem Env.ext {R':List Ty} {σ':St} (e:Env R as σ) (x:Ex R R') (kt:KT R' σ') (h5:σ'.arrays=σ.arrays) (h6:σ'.at_=σ.at_) (h7:σ'.order=σ.order) (h8:σ'.state=σ.state) (h9:σ'.told=σ.told) (h10:σ'.thrown=σ.thrown) (h11:σ'.dyn=σ.dyn):Env R' as σ' :=
 ⟨kt,⟨h5.trans e.af.arrays,h6.trans e.af.at_,h7.trans e.af.order,e.af.nd,e.af.rng,e.af.len⟩,fun a ha=>by rw [h11]; exact (e.dyn a ha).ext x (e.el a ha).2.1,fun a ha=>⟨(e.el a ha).1,x.mem (e.el a ha).2.1,(e.el a ha).2.2⟩,h8.trans e.st,h9.trans e.told,h10.trans e.thrown⟩
theorem KP (h:KT R σ) (n:KN R K σ):σ.setA R K σ.kin=σ:=by unfold St.setA; rw [n.self h]
theorem zbQ {x:Int} {t u:Ty} (h:ExT as x t) (b:Bd R K as N σ) (hN:N≤1000) (hu:u∈zm)
  (q:∀ R' K' kn,Ex R R'→Bd R' K' as (N + 1) (σ.setA R' K' kn)→(yE 4 (nm t) (nm u)=true→(ze (.tup [.int (kx R' t),.int (kx R' u)]) kn).isSome=true)→(∀ z,(ze z σ.kin).isSome=true→(ze z kn).isSome=true) →
   Q (.bool (yE 4 (nm t) (nm u))) (σ.setA R' K' kn)):WC (cf scr (d + 10)) 136 [.obj 79,(Val.ref x).av,.str (nm u)] σ Q:=by
 have hb:σ.kin.length < big:=Nat.lt_of_le_of_lt (Nat.le_trans b.kl hN) (by decide)
 cases hg:yE 4 (nm t) (nm u) with
 | false =>
  have:=q R K σ.kin (.refl b.env.kt.wf) (by rw [KP b.env.kt b.kn]; exact ⟨b.env,b.kn,b.ki,Nat.le_succ_of_le b.kl⟩) (by rw [hg]; intro h; cases h) (fun _ h=>h)
  rw [KP b.env.kt b.kn,hg] at this
  exact zlB h b.env hu hg this
 | true =>
  try refine Sk.mk ?_
  refine zkL h b.env b.kn hu hg hb fun R' K' x1 x2 x3 x4 x5=>?_
  have hd:ze (.tup [.int (kx R' t),.int (kx R' u)]) (zB (.tup [.int (kx R' t),.int (kx R' u)]) (.int 1) σ.kin)=some (.int 1):=by rw [Ki,if_pos rfl]
  have:=q R' K' (zB (.tup [.int (kx R' t),.int (kx R' u)]) (.int 1) σ.kin) x1
   ⟨b.env.ext x1 (x4.of rfl rfl rfl rfl) rfl rfl rfl rfl rfl rfl rfl,⟨x5.kinds,x5.sub,x5.named,x5.base,x5.nodup⟩,b.ki.add x1 (x5.sub _ x2) (x5.sub _ x3) hg rfl,Nat.le_trans xk (by have:=b.kl; lia)⟩
   (fun _=>by rw [hd]; rfl) (fun z hz=>by
    rw [Ki]
    split
    ·rfl
    ·exact hz)
  rw [hg] at this
  exact this
theorem Cls.ext {as:List Arr} (c:Cls as wh ix o th):Cls as wh ix o th:=c
theorem zdw {v:Val} {t w:Ty} (c:Cls as wh ix o th) (ho:o≠.ok) (b:Bd R K as N σ) (hN:N≤1000) (ht:t∈zm) (hw:w∈R) (hv:VOk as v)
  (q:∀ R' K' kn r,Ex R R'→Bd R' K' as (N + 1) (σ.setA R' K' kn)→Q (.bool true) { σ.setA R' K' kn with stk:=r }):WC (cf scr (d + 16)) 137 [.obj 79,wh,ix,v.av,.str (nm t),.int (kx R w)] σ Q:=by
 have sn:=(zK (zL _ ht).1).1
 have qq:∀ R' K' kn r,Ex R R'→Bd R' K' as (N + 1) (σ.setA R' K' kn)→Q (.bool true) { σ.setA R' K' kn with stk:=r,state:=0,told:=[],thrown:=[] }:=by
  intro R' K' kn r x b'
  have:=q R' K' kn r x b'
  dsimp only [St.setA,St.setN,St.setK] at this ⊢
  rw [← Vi b.env.st b.env.told b.env.thrown] at this
  exact this
 have q00:∀ r,Q (.bool true) { σ with stk:=r,state:=0,told:=[],thrown:=[] }:=by
  intro r
  have:=qq R K σ.kin r (.refl b.env.kt.wf) (by rw [KP b.env.kt b.kn]; exact ⟨b.env,b.kn,b.ki,Nat.le_succ_of_le b.kl⟩)
  rw [KP b.env.kt b.kn] at this
  exact this
 obtain ⟨w',c',hu,hw⟩:=zbt ho
 refine za rfl rfl ?_
 symm
 refine yu c b.env ?_
 rw [hu]
 by_cases h4:v.tag=4
 ·cases v with
  | ref x =>
   by_cases x0:x=0
   ·subst x0
    symm
    refine za rfl rfl ?_
    symm
    refine yl c ho (b.env.move rfl rfl rfl rfl rfl rfl rfl rfl rfl rfl fun a ha z1c=>by obtain ⟨D1,D2,D3,D4⟩:=z1c; exact ⟨by right,by right,by right,by right⟩) ?_
    dsimp only [V5]
    symm
    refine Jn ho hu (D:=σ.dyn) rfl rfl (by right) (Nat.le_of_ble_eq_true rfl) (by sizeOf_list_dec) (by simp_all_arith) ?_
    symm
    exact q00 _
   ·by_cases h0:zd (nm t)=0
    ·obtain ⟨et,hx⟩:=ExT.of (hv.2 x rfl) x0
     symm
     refine zbQ hx b hN ht fun R' K' kn x1 b1 z1 z2=>?_
     have qf:=fun r=>qq R' K' kn r x1 b1
     dsimp only [St.setA,St.setN,St.setK] at b1 qf ⊢
     symm
     refine za rfl rfl ?_
     symm
     refine yl c ho (b1.env.move rfl rfl rfl rfl rfl rfl rfl rfl rfl rfl fun a ha z2c=>by obtain ⟨D1,D2,D3,D4⟩:=z2c; exact ⟨by right,by right,by right,by right⟩) ?_
     dsimp only [V5]
     symm
     refine Jn ho hu (D:=σ.dyn) rfl rfl (by right) (Nat.le_of_ble_eq_true rfl) (by sizeOf_list_dec) (by simp_all_arith) ?_
     symm
     exact qf _
    ·symm
     refine za rfl rfl ?_
     symm
     refine yl c ho (b.env.move rfl rfl rfl rfl rfl rfl rfl rfl rfl rfl fun a ha z3c=>by obtain ⟨D1,D2,D3,D4⟩:=z3c; exact ⟨by right,by right,by right,by right⟩) ?_
     dsimp only [V5]
     symm
     refine Jn ho hu (D:=σ.dyn) rfl rfl (by right) (Nat.le_of_ble_eq_true rfl) (by sizeOf_list_dec) (by simp_all_arith) ?_
     symm
     exact q00 _
  | num g n=>rcases hv.1 with rfl | rfl | rfl <;> cases h4
  | st=>cases h4
  | ftn=>cases h4
 ·delta Val.av
  symm
  refine za rfl rfl ?_
  symm
  refine yl c ho (b.env.move rfl rfl rfl rfl rfl rfl rfl rfl rfl rfl fun a ha z4c=>by obtain ⟨D1,D2,D3,D4⟩:=z4c; exact ⟨by right,by right,by right,by right⟩) ?_
  dsimp only [V5]
  symm
  refine Jn ho hu (D:=σ.dyn) rfl rfl (by right) (Nat.le_of_ble_eq_true rfl) (by sizeOf_list_dec) (by simp_all_arith) ?_
  symm
  exact q00 _
end
section
variable {scr:List Int} {d:Nat} {σ:St} {Q:AV→St→Prop} {k s:Int} {rest row:List AV} {n x y:List Nat} {R K:List Ty} {as:List Arr} {wh ix th:AV} {o:Out} {N:Nat}
theorem zdB {v:Val} {t w:Ty} {a:Arr} {y i:Int} (hy:y=1∨y=3) (ha:a∈as) (hi:0≤i∧i < a.vs.length) (hu:yn (nm a.e) (nm t)=true) (b:Bd R K as N σ) (ht:t∈zm) (hw:w∈R) (hc:zQ w=t) (hv:VOk as v)
  (q:∀ R' r,Ex R R'→Q (.bool true) { σ.setK R' with stk:=r }):WC (cf scr (d + 16)) 137 [.obj 79,.tup [.int 4,.int a.addr],.tup [.int y,.int i],v.av,.str (nm t),.int (kx R w)] σ Q:=by
 have e:=b.env
 have q2:∀ R' r,Ex R R'→Q (.bool true) { σ.setK R' with stk:=r,state:=0,told:=[],thrown:=[] }:=by
  intro R' r x
  have:=q R' r x
  dsimp only [St.setK] at this ⊢
  rw [← Vi e.st e.told e.thrown] at this
  exact this
 have tl':σ.told++[AV.tup [.int 5,.int 1,.int 0]]=[AV.tup [.int 5,.int 1,.int 0]]:=by rw [e.told]; rfl
 have m:=e.af.hit ha
 obtain ⟨D1,D2,D3,D4⟩:=e.dyn _ ha
 obtain ⟨ae,ar,l5⟩:=e.el _ ha
 have se:=(zK (zL _ ae).1).1
 have sn:=(zK (zL _ ht).1).1
 have hst:=e.st
 have ak:=e.akd ha
 have aR0:a.e∈R:=e.kt.wf.clo _ ar
 have tl:σ.told.length < big:=by rw [e.told]; decide
 refine za rfl rfl ?_
 symm
 refine yu (.ok hy ha hi) e ?_
 symm
 refine zn zv ((zx rfl).trans (congrArg some m)) ?_
 symm
 refine J2 se sn ?_
 rw [hu]
 symm
 refine za rfl rfl ?_
 symm
 refine yH (.ok hy ha hi) (e.move rfl rfl rfl rfl rfl rfl rfl rfl rfl rfl fun a ha z1c=>by obtain ⟨D1,D2,D3,D4⟩:=z1c; exact ⟨by right,by right,by right,by right⟩) ?_
 dsimp only [V7]
 symm
 refine yV (R:=R) (w:=w) (e.kt.of rfl rfl rfl rfl) hw fun R' x1 x2 x3=>?_
 have aR:a.e∈R':=x1.mem aR0
 rw [hc] at x2 ⊢
 obtain ⟨r1,k1⟩:=Kk x1.wf aR
 obtain ⟨r2,k2⟩:=Kk x1.wf x2
 have sm:=WZ x1.wf ae aR ht x2
 rw [hu] at sm
 rw [x1.kx aR0] at k1 sm
 dsimp only [St.setK]
 symm
 refine WN k1 (zV _ ae) k2 (zV _ ht) ?_
 rw [sm]
 symm
 try dsimp only
 try refine Sk.mk ?_
 refine yD (c:=5) (D:=σ.dyn) tl' e.thrown (by right) (Nat.le_of_ble_eq_true rfl) (by sizeOf_list_dec) (by simp_all_arith) ?_
 symm
 exact q2 R' _ x1
end
section
variable {scr:List Int} {d:Nat} {σ:St} {Q:AV→St→Prop} {k s:Int} {rest row:List AV} {n x y:List Nat} {R K:List Ty} {as:List Arr} {wh ix th:AV} {o:Out} {N:Nat}
theorem sh9:∀ t∈zm,zd (nm t)=9→t∈K0:=by decide
theorem jW {R':List Ty} (x:Ex R R') {t:Ty} (ht:t∈zm) (hm:t∈R):yq (zq (kx R t)) (zH (zC t))≠6:=by
 have:=xD x.wf ht (x.mem hm)
 rw [x.kx hm] at this
 rw [this]
 have sh:∀ t∈zm,KZ (zd (nm t))≠6:=by decide
 exact sh t ht
theorem zdZ {v:Val} (h:Kd σ.rows (zq k) (.int s::rest)) (hs:s=1∨s=2∨s=3∨s=4∨s=6∨s=7) (h6:yq (zq k) s≠6) (hv:v.ok) (hf:Za (zq k) s v=false) (hst:σ.state=0) (tl:σ.told.length < big)
  (q:Q (.tup [.int 0,.int 0]) { σ with told:=σ.told++[.tup [.int 1,.int 1,.int 0]],state:=3 }):WC (cf scr (d + 5)) 96 [.obj 17,.int k,v.av] σ Q:=by
 refine za rfl rfl ?_
 symm
 refine zeP h hs h6 hv ?_
 rw [hf]
 symm
 exact q
theorem zjl {v:Val} {t w:Ty} {a:Arr} {y i:Int} (hy:y=1∨y=3) (ha:a∈as) (hi:0≤i∧i < a.vs.length) (hu:yn (nm a.e) (nm t)=false) (hk:yd (nm a.e) (kx R a.e) v=false) (b:Bd R K as N σ) (ht:t∈zm) (hw:w∈R) (hc:zQ w=t) (hv:VOk as v)
  (q:∀ R' r,Ex R R'→Q (.bool true) { σ.setK R' with stk:=r }):WC (cf scr (d + 16)) 137 [.obj 79,.tup [.int 4,.int a.addr],.tup [.int y,.int i],v.av,.str (nm t),.int (kx R w)] σ Q:=by
 have e:=b.env
 have q2:∀ R' r,Ex R R'→Q (.bool true) { σ.setK R' with stk:=r,state:=0,told:=[],thrown:=[] }:=by
  intro R' r x
  have:=q R' r x
  dsimp only [St.setK] at this ⊢
  rw [← Vi e.st e.told e.thrown] at this
  exact this
 have tl':σ.told++[AV.tup [.int 1,.int 1,.int 0]]=[AV.tup [.int 1,.int 1,.int 0]]:=by rw [e.told]; rfl
 have m:=e.af.hit ha
 obtain ⟨D1,D2,D3,D4⟩:=e.dyn _ ha
 obtain ⟨ae,ar,l5⟩:=e.el _ ha
 have se:=(zK (zL _ ae).1).1
 have sn:=(zK (zL _ ht).1).1
 have hst:=e.st
 have ak:=e.akd ha
 have aR0:a.e∈R:=e.kt.wf.clo _ ar
 have tl:σ.told.length < big:=by rw [e.told]; decide
 refine za rfl rfl ?_
 symm
 refine yu (.ok hy ha hi) e ?_
 symm
 refine zn zv ((zx rfl).trans (congrArg some m)) ?_
 symm
 refine J2 se sn ?_
 rw [hu]
 symm
 refine YJ se hv.1 (fun z=>b.kn.hit (b.kn.base _ (sh9 _ ae z))) ?_
 rw [hk]
 symm
 refine za rfl rfl ?_
 symm
 refine yH (.ok hy ha hi) (e.move rfl rfl rfl rfl rfl rfl rfl rfl rfl rfl fun a ha z1c=>by obtain ⟨D1,D2,D3,D4⟩:=z1c; exact ⟨by right,by right,by right,by right⟩) ?_
 dsimp only [V7]
 symm
 refine yV (R:=R) (w:=w) (e.kt.of rfl rfl rfl rfl) hw fun R' x1 x2 x3=>?_
 have aR:a.e∈R':=x1.mem aR0
 rw [hc] at x2 ⊢
 obtain ⟨r1,k1⟩:=Kk x1.wf aR
 obtain ⟨r2,k2⟩:=Kk x1.wf x2
 have sm:=WZ x1.wf ae aR ht x2
 rw [hu] at sm
 rw [x1.kx aR0] at k1 sm
 dsimp only [St.setK]
 symm
 refine WN k1 (zV _ ae) k2 (zV _ ht) ?_
 rw [sm]
 symm
 have ff:=zbU x1.wf ae aR (v:=v)
 rw [x1.kx aR0,hk] at ff
 try refine Sk.mk ?_
 refine zdZ k1 (zV _ ae) (jW x1 ae aR0) hv.1 ff (by exact hst) (by exact tl) ?_
 dsimp only
 symm
 refine zfV rfl ?_
 rw [show AV.eqbs [.int 0,.int 0] [.int 0,.int 0]=true from rfl]
 symm
 refine yD (c:=1) (D:=σ.dyn) tl' e.thrown (by right) (Nat.le_of_ble_eq_true rfl) (by sizeOf_list_dec) (by simp_all_arith) ?_
 symm
 exact q2 R' _ x1
end
theorem zhU {v:Val} (h:v.ok):v.tag≠0:=by
 cases v with
 | num g i=>rcases h with rfl | rfl | rfl <;> simp [Val.tag]
 | _=>simp [Val.tag]
theorem zh6 (n:List Nat):Zu n=1∨Zu n=2∨Zu n=3:=by
 delta Zu
 by_cases h:n=[110,105,110,116]
 ·exact .inr (.inr (if_pos h))
 ·rw [if_neg h]
  by_cases h:zd n=8
  ·exact .inr (.inl (if_pos h))
  ·exact .inl (if_neg h)
theorem VZ {n:List Nat} {v:Val} (h:v.ok):(zG n v).ok∧(zG n v).tag≠0:=by
 have z:(zG n v).ok:=by
  induction v using Val.casesOn with
  | num g i =>
   show ((Kc n).elim (Val.num g i) fun p=>.num (Zu n) ((i - p.1) % p.2 + p.1)).ok
   cases Kc n with
   | none=>exact h
   | some p=>exact zh6 n
  | _=>exact h
 exact ⟨z,zhU z⟩
theorem zdj {v:Val} (h:v.tag≠0):AV.eqbs (.int v.tag::v.rest) [.int 0,.int 0]=false:=by
 show (AV.eqb (.int v.tag) (.int 0)&&AV.eqbs v.rest [.int 0])=false
 rw [show AV.eqb (.int v.tag) (.int 0)=false from decide_eq_false h]; rfl
theorem qv (v:Val):((AV.int v.tag::v.rest).all (zg 5)&&([AV.int 0,AV.int 0]:List AV).all (zg 5))=true:=by cases v <;> rfl
section
variable {scr:List Int} {d:Nat} {σ:St} {Q:AV→St→Prop} {k s:Int} {rest row:List AV} {n x y:List Nat} {R K:List Ty} {as:List Arr} {wh ix th:AV} {o:Out} {N:Nat}
theorem zmL {v:Val} {t w:Ty} {a:Arr} {y i:Int} (hy:y=1∨y=3) (ha:a∈as) (hi:0≤i∧i < a.vs.length) (hu:yn (nm a.e) (nm t)=false) (hk:yd (nm a.e) (kx R a.e) v=true) (h4:v.tag≠4) (h0:zd (nm a.e)≠0) (nts:a.t≠a.s) (hbt:0≤σ.bits∧σ.bits≤3) (hcl:σ.cards.length < big) (b:Bd R K as N σ) (ht:t∈zm) (hw:w∈R) (hc:zQ w=t) (hv:VOk as v)
  (nsi:a.s≠a.i) (nsg:a.s≠a.g) (nig:a.i≠a.g) (hwl:σ.wcards.length < big)
  (q:∀ R' r,Ex R R'→Q (.bool true) { σ.setK R' with stk:=r,cards:=if a.gen > 0∧zE (zG (nm a.e) v)=true then zB (.int (zZ σ.bits a.addr i)) (.int 1) σ.cards else σ.cards,wcards:=if a.gen > 0∧zE (zG (nm a.e) v)=true then zB (.int (zZ σ.bits a.addr i)) (.int 1) σ.wcards else σ.wcards,dyn:=zf a.i (.list ((a.vs.map Val.av).set i.toNat (zG (nm a.e) v).av)) (zf a.s (.list ((a.vs.map Val.av).set i.toNat (zG (nm a.e) v).av)) σ.dyn) }):WC (cf scr (d + 16)) 137 [.obj 79,.tup [.int 4,.int a.addr],.tup [.int y,.int i],v.av,.str (nm t),.int (kx R w)] σ Q:=by
 have e:=b.env
 have q2:∀ R' r,Ex R R'→Q (.bool true) { σ.setK R' with stk:=r,cards:=if a.gen > 0∧zE (zG (nm a.e) v)=true then zB (.int (zZ σ.bits a.addr i)) (.int 1) σ.cards else σ.cards,wcards:=if a.gen > 0∧zE (zG (nm a.e) v)=true then zB (.int (zZ σ.bits a.addr i)) (.int 1) σ.wcards else σ.wcards,dyn:=zf a.i (.list ((a.vs.map Val.av).set i.toNat (zG (nm a.e) v).av)) (zf a.s (.list ((a.vs.map Val.av).set i.toNat (zG (nm a.e) v).av)) σ.dyn),state:=0,told:=[],thrown:=[] }:=by
  intro R' r x
  have:=q R' r x
  dsimp only [St.setK] at this ⊢
  rw [← Vi e.st e.told e.thrown] at this
  exact this
 have tl':σ.told++[AV.tup [.int 1,.int 1,.int 0]]=[AV.tup [.int 1,.int 1,.int 0]]:=by rw [e.told]; rfl
 have m:=e.af.hit ha
 obtain ⟨D1,D2,D3,D4⟩:=e.dyn _ ha
 obtain ⟨ae,ar,l5⟩:=e.el _ ha
 have se:=(zK (zL _ ae).1).1
 have sn:=(zK (zL _ ht).1).1
 have hst:=e.st
 have ak:=e.akd ha
 have aR0:a.e∈R:=e.kt.wf.clo _ ar
 have tl:σ.told.length < big:=by rw [e.told]; decide
 refine za rfl rfl ?_
 symm
 refine yu (.ok hy ha hi) e ?_
 symm
 refine zn zv ((zx rfl).trans (congrArg some m)) ?_
 symm
 refine J2 se sn ?_
 rw [hu]
 symm
 refine YJ se hv.1 (fun z=>b.kn.hit (b.kn.base _ (sh9 _ ae z))) ?_
 rw [hk]
 symm
 refine za rfl rfl ?_
 symm
 refine yH (.ok hy ha hi) (e.move rfl rfl rfl rfl rfl rfl rfl rfl rfl rfl fun a ha z1c=>by obtain ⟨D1,D2,D3,D4⟩:=z1c; exact ⟨by right,by right,by right,by right⟩) ?_
 dsimp only [V7]
 symm
 refine yV (R:=R) (w:=w) (e.kt.of rfl rfl rfl rfl) hw fun R' x1 x2 x3=>?_
 have aR:a.e∈R':=x1.mem aR0
 rw [hc] at x2 ⊢
 obtain ⟨r1,k1⟩:=Kk x1.wf aR
 obtain ⟨r2,k2⟩:=Kk x1.wf x2
 have sm:=WZ x1.wf ae aR ht x2
 rw [hu] at sm
 rw [x1.kx aR0] at k1 sm
 dsimp only [St.setK]
 symm
 refine WN k1 (zV _ ae) k2 (zV _ ht) ?_
 rw [sm]
 symm
 have ff:=zbU x1.wf ae aR (v:=v)
 rw [x1.kx aR0,hk] at ff
 have ps:=zcs x1.wf ae aR (v:=v)
 rw [x1.kx aR0] at ps
 try refine Sk.mk ?_
 refine zaM (s':=0) (rest':=[]) k1 (zV _ ae) (jW x1 ae aR0) hv.1 ff ?_
 rw [ps]
 symm
 refine zfV (qv _) ?_
 rw [zdj (VZ hv.1).2]
 symm
 obtain ⟨r3,k3⟩:=(KT.set (σ:=σ) x1.wf).Kds aR
 rw [x1.kx aR0] at k3
 try refine Sk.mk ?_
 refine J8 k3 ?_
 have iv:=jU x1.wf ae aR
 rw [x1.kx aR0,decide_eq_false h0] at iv
 rw [iv]
 symm
 refine y9 (t:=a.t) (r:=a.s) (by right) (by right) nts ⟨hi.1,by rw [List.length_map]; exact hi.2,by lia⟩ (VZ hv.1).1 hbt.1 (by exact hcl) ?_
 dsimp only
 symm
 refine yG (D:=zf a.s (.list ((a.vs.map Val.av).set i.toNat (zG (nm a.e) v).av)) σ.dyn) (by right) (by constructor) (Nat.zero_le _) rfl e.told e.thrown (by right) (Nat.le_of_ble_eq_true rfl) rfl ?_ ?_ ?_
 ·refine zl (zF (Ne.symm (zI D2 (by simp_all_arith))) (by simp_all_arith)) ?_
  refine Jp ?_
  sizeOf_list_dec
 ·exact zF (Ne.symm (zI D2 (by simp_all_arith))) (by simp_all_arith)
 symm
 try dsimp only
 try refine Sk.mk ?_
 refine zn zv ((zx rfl).trans (congrArg some m)) ?_
 symm
 refine Ka se hv.1 ?_
 symm
 refine WP (by exact m) (by right) (by right) nig ⟨hi.1,hi.2,by lia⟩ (VZ hv.1).1 hbt (by exact hwl) ?_
 try dsimp only
 symm
 exact q2 R' _ x1
end
section
variable {scr:List Int} {d:Nat} {σ:St} {Q:AV→St→Prop} {k s:Int} {rest row:List AV} {n x y:List Nat} {R K:List Ty} {as:List Arr} {wh ix th:AV} {o:Out} {N:Nat}
theorem ExT.mem {x:Int} {t:Ty} (h:ExT as x t) (e:Env R as σ):t∈R:=by
 cases h with
 | arr ha=>exact (e.el _ ha).2.1
 | obj hx =>
  have:∀ x∈z0,∃ i < 25,Yr x=.base i:=by decide
  obtain ⟨i,hi,z⟩:=this _ hx
  rw [z]; exact yX e.kt.wf hi
theorem ExT.thing {x:Int} {t:Ty} (h:ExT as x t) (e:Env R as σ):∃ p r g z u,ze (.int x) σ.at_=some (.obj p)∧Rd σ p (.inst 3 (tF x (kx R t) r g z u)):=by
 cases h with
 | arr ha=>exact ⟨_,_,_,_,_,e.af.at ha,zu (e.dyn _ ha).t⟩
 | obj hx =>
  have hat:ze (.int x) σ.at_=(ze (.int x) at0).or (ze (.int x) (as.map fun a=>(.int a.addr,.obj a.t))):=by rw [e.af.at_,J4]
  have w:=e.kt.wf
  simp only [z0,List.mem_cons,List.not_mem_nil,or_false] at hx
  rcases hx with rfl | rfl | rfl | rfl | rfl | rfl | rfl
  ·exact ⟨_,_,_,_,_,hat.trans rfl,by rw [show Yr 16=.base 16 from rfl,zM w (by decide)]; exact ze2⟩
  ·exact ⟨_,_,_,_,_,hat.trans rfl,by rw [show Yr 19=.base 17 from rfl,zM w (by decide)]; exact zgr⟩
  ·exact ⟨_,_,_,_,_,hat.trans rfl,by rw [show Yr 22=.base 18 from rfl,zM w (by decide)]; exact zgK⟩
  ·exact ⟨_,_,_,_,_,hat.trans rfl,by rw [show Yr 25=.base 19 from rfl,zM w (by decide)]; exact zft⟩
  ·exact ⟨_,_,_,_,_,hat.trans rfl,by rw [show Yr 28=.base 13 from rfl,zM w (by decide)]; exact zfo⟩
  ·exact ⟨_,_,_,_,_,hat.trans rfl,by rw [show Yr 31=.base 7 from rfl,zM w (by decide)]; exact zeK⟩
  ·exact ⟨_,_,_,_,_,hat.trans rfl,by rw [show Yr 34=.base 21 from rfl,zM w (by decide)]; exact zgb⟩
theorem zeo (n:List Nat):yE 4 n n=true:=if_pos (.inl rfl)
theorem zma (n:List Nat):yE 4 n [111]=true:=if_pos (.inr rfl)
theorem zgx {t u:Ty} (b:Bd R K as N σ) (ht:t∈R) (hu:u∈R) (h:yE 4 (nm t) (nm u)=true→(ze (.tup [.int (kx R t),.int (kx R u)]) σ.kin).isSome=true):isA (kx R t) (kx R u) σ.kin=yE 4 (nm t) (nm u):=by
 unfold isA
 cases g:yE 4 (nm t) (nm u) with
 | true=>exact decide_eq_true (.inr (.inr (h g)))
 | false =>
  refine decide_eq_false ?_
  rintro (z | z | z)
  ·rw [Vp ht hu z,zeo] at g; cases g
  ·have w:=b.env.kt.wf
   have:u=.base 12:=Vp hu (yX w (i:=12) (by decide)) (by rw [z,zM w (by decide)]; rfl)
   rw [this] at g
   rw [show nm (.base 12)=[111] from rfl,zma] at g; cases g
  ·rw [b.ki.no ht hu g] at z; cases z
theorem YX {x:Int} {t w:Ty} {a:Arr} {y i:Int} {sf:Nat} (hy:y=1∨y=3) (ha:a∈as) (hi:0≤i∧i < a.vs.length) (hu:yn (nm a.e) (nm t)=false) (h0:zd (nm a.e)=0) (e:Env R as σ) (ht:t∈zm) (hw:w∈R) (hc:zQ w=t)
  (hs:Dl σ.dyn σ.stk (.list [.tup [.int 1,.int 77],.tup [.int 4,.int a.addr],.tup [.int y,.int i],(Val.ref x).av])) (ns:∀ a∈as,a.t≠σ.stk∧a.s≠σ.stk∧a.i≠σ.stk∧a.g≠σ.stk) (nts:a.t≠a.s) (hbt:0≤σ.bits) (hcl:σ.cards.length < big)
  {L:Bool} (hL:x=0∧L=true∨x≠0∧∃ et,ExT as x et∧isA (kx R et) (kx R a.e) σ.kin=L)
  (q1:L=true→∀ R',Ex R R'→Q (.int (-1)) { σ.setK R' with cards:=if a.gen > 0∧zE (.ref x)=true then zB (.int (zZ σ.bits a.addr i)) (.int 1) σ.cards else σ.cards,dyn:=zf a.s (.list ((a.vs.map Val.av).set i.toNat (Val.ref x).av)) (zf σ.stk (.list [.tup [.int 1,.int 77]]) σ.dyn) })
  (q2:L=false→∀ R',Ex R R'→Q (.int (-2)) { σ.setK R' with thrown:=[.int 27],dyn:=zf σ.stk (.list [.tup [.int 1,.int 77]]) σ.dyn }):WC (cf scr (d + 13)) 108 [.obj sf,.obj 17,.obj 53,.int (kx R w)] σ Q:=by
 obtain ⟨D1,D2,D3,D4⟩:=e.dyn _ ha
 obtain ⟨n1,n2,n3,n4⟩:=ns _ ha
 obtain ⟨ae,ar,l5⟩:=e.el _ ha
 have hst:=e.st
 have ak:=e.akd ha
 have aR0:a.e∈R:=e.kt.wf.clo _ ar
 have tl:σ.thrown.length < big:=by rw [e.thrown]; decide
 have th:σ.thrown++[AV.int 27]=[AV.int 27]:=by rw [e.thrown]; rfl
 refine za rfl rfl ?_
 symm
 refine yH (.ok hy ha hi) (e.move rfl rfl rfl rfl rfl rfl rfl rfl rfl rfl fun b hb z1c=>by obtain ⟨D1,D2,D3,D4⟩:=z1c; exact by obtain ⟨n1,n2,n3,n4⟩:=ns b hb; exact ⟨by right,by right,by right,by right⟩) ?_
 dsimp only [V7]
 symm
 refine yV (R:=R) (w:=w) (e.kt.of rfl rfl rfl rfl) hw fun R' x1 x2 x3=>?_
 have aR:a.e∈R':=x1.mem aR0
 rw [hc] at x2 ⊢
 obtain ⟨r1,k1⟩:=Kk x1.wf aR
 obtain ⟨r2,k2⟩:=Kk x1.wf x2
 have sm:=WZ x1.wf ae aR ht x2
 rw [hu] at sm
 rw [x1.kx aR0] at k1 sm
 dsimp only [St.setK] at q1 q2 ⊢
 symm
 refine WN k1 (zV _ ae) k2 (zV _ ht) ?_
 rw [sm]
 symm
 have ff:=zbU x1.wf ae aR (v:=.ref x)
 rw [x1.kx aR0,show yd (nm a.e) (kx R a.e) (.ref x)=true from by unfold yd; rw [if_pos h0]; rfl] at ff
 try refine Sk.mk ?_
 refine zaM (v:=.ref x) (s':=0) (rest':=[]) k1 (zV _ ae) (jW x1 ae aR0) trivial ff ?_
 rw [show zT (zq (kx R a.e)) (zH (zC a.e)) (.ref x)=.ref x from rfl]
 symm
 refine zfV (qv (.ref x)) ?_
 rw [zdj (v:=.ref x) (by simp [Val.tag])]
 symm
 obtain ⟨r3,k3⟩:=(KT.set (σ:=σ) x1.wf).Kds aR
 rw [x1.kx aR0] at k3
 try refine Sk.mk ?_
 refine J8 k3 ?_
 have iv:=jU x1.wf ae aR
 rw [x1.kx aR0,decide_eq_true h0] at iv
 rw [iv]
 symm
 rcases hL with ⟨rfl,hL⟩ | ⟨x0,et,hx,hL⟩
 ·refine zig ?_
  symm
  refine y9 (t:=a.t) (r:=a.s) (v:=.ref 0) (by right) (by right) nts ⟨hi.1,by rw [List.length_map]; exact hi.2,by lia⟩ trivial hbt (by exact hcl) ?_
  dsimp only
  symm
  simp only [zX]
  exact q1 hL R' x1
 ·obtain ⟨p,r,g,z,u,hm,hp⟩:=hx.thing (σ:={ σ.setK R' with dyn:=zf σ.stk (.list [.tup [.int 1,.int 77]]) σ.dyn }) ((e.ext x1 (KT.set x1.wf) rfl rfl rfl rfl rfl rfl rfl).move rfl rfl rfl rfl rfl rfl rfl rfl rfl rfl fun b hb z2c=>by obtain ⟨D1,D2,D3,D4⟩:=z2c; exact by obtain ⟨n1,n2,n3,n4⟩:=ns b hb; exact ⟨zo n1 D1,zo n2 D2,zo n3 D3,zo n4 D4⟩)
  rw [x1.kx (hx.mem e)] at hp
  simp only [zX]
  try refine Sk.mk ?_
  refine zlf x0 hm hp ?_
  dsimp only
  rw [hL]
  cases L with
  | true =>
   symm
   refine y9 (t:=a.t) (r:=a.s) (v:=.ref x) (by right) (by right) nts ⟨hi.1,by rw [List.length_map]; exact hi.2,by lia⟩ trivial hbt (by exact hcl) ?_
   dsimp only
   symm
   try simp only [zX]
   exact q1 rfl R' x1
  | false =>
   symm
   have:=q2 rfl R' x1
   rw [← th] at this
   exact this
end
section
variable {scr:List Int} {d:Nat} {σ:St} {Q:AV→St→Prop} {k s:Int} {rest row:List AV} {n x y:List Nat} {R K:List Ty} {as:List Arr} {wh ix th:AV} {o:Out} {N:Nat}
theorem zib {t w:Ty} {a:Arr} {y i:Int} (hy:y=1∨y=3) (ha:a∈as) (hi:0≤i∧i < a.vs.length) (hu:yn (nm a.e) (nm t)=false) (h0:zd (nm a.e)=0) (nts:a.t≠a.s) (hbt:0≤σ.bits∧σ.bits≤3) (hcl:σ.cards.length < big) (b:Bd R K as N σ) (ht:t∈zm) (hw:w∈R) (hc:zQ w=t)
  (nsi:a.s≠a.i) (nsg:a.s≠a.g) (nig:a.i≠a.g) (hwl:σ.wcards.length < big)
  (q:∀ R' r,Ex R R'→Q (.bool true) { σ.setK R' with stk:=r,cards:=if a.gen > 0∧zE (.ref 0)=true then zB (.int (zZ σ.bits a.addr i)) (.int 1) σ.cards else σ.cards,wcards:=if a.gen > 0∧zE (.ref 0)=true then zB (.int (zZ σ.bits a.addr i)) (.int 1) σ.wcards else σ.wcards,dyn:=zf a.i (.list ((a.vs.map Val.av).set i.toNat (Val.ref 0).av)) (zf a.s (.list ((a.vs.map Val.av).set i.toNat (Val.ref 0).av)) σ.dyn) }):WC (cf scr (d + 16)) 137 [.obj 79,.tup [.int 4,.int a.addr],.tup [.int y,.int i],(Val.ref 0).av,.str (nm t),.int (kx R w)] σ Q:=by
 have e:=b.env
 have q2:∀ R' r,Ex R R'→Q (.bool true) { σ.setK R' with stk:=r,cards:=if a.gen > 0∧zE (.ref 0)=true then zB (.int (zZ σ.bits a.addr i)) (.int 1) σ.cards else σ.cards,wcards:=if a.gen > 0∧zE (.ref 0)=true then zB (.int (zZ σ.bits a.addr i)) (.int 1) σ.wcards else σ.wcards,dyn:=zf a.i (.list ((a.vs.map Val.av).set i.toNat (Val.ref 0).av)) (zf a.s (.list ((a.vs.map Val.av).set i.toNat (Val.ref 0).av)) σ.dyn),state:=0,told:=[],thrown:=[] }:=by
  intro R' r x
  have:=q R' r x
  dsimp only [St.setK] at this ⊢
  rw [← Vi e.st e.told e.thrown] at this
  exact this
 have m:=e.af.hit ha
 obtain ⟨D1,D2,D3,D4⟩:=e.dyn _ ha
 obtain ⟨ae,ar,l5⟩:=e.el _ ha
 have se:=(zK (zL _ ae).1).1
 have sn:=(zK (zL _ ht).1).1
 refine za rfl rfl ?_
 symm
 refine yu (.ok hy ha hi) e ?_
 symm
 refine zn zv ((zx rfl).trans (congrArg some m)) ?_
 symm
 refine J2 se sn ?_
 rw [hu]
 symm
 refine YJ (v:=.ref 0) (kn:=0) se trivial (fun z=>by rw [h0] at z; cases z) ?_
 rw [show yd (nm a.e) 0 (.ref 0)=true from by unfold yd; rw [if_pos h0]; rfl]
 symm
 refine YX (x:=0) (L:=true) hy ha hi hu h0 (e.move rfl rfl rfl rfl rfl rfl rfl rfl rfl rfl fun a ha z1c=>by obtain ⟨D1,D2,D3,D4⟩:=z1c; exact ⟨by right,by right,by right,by right⟩) ht hw hc (by right) (fun b hb=>by obtain ⟨D1,D2,D3,D4⟩:=e.dyn _ hb; exact ⟨by constructor,by constructor,by constructor,by constructor⟩) nts (by exact hbt.1) (by exact hcl) (.inl ⟨rfl,rfl⟩) (fun _ R' x1=>?_) (fun z=>by cases z)
 dsimp only [St.setK] at q2 ⊢
 symm
 refine yG (D:=zf a.s (.list ((a.vs.map Val.av).set i.toNat (Val.ref 0).av)) σ.dyn) (by right) (by constructor) (Nat.zero_le _) rfl e.told e.thrown (by right) (Nat.le_of_ble_eq_true rfl) rfl ?_ ?_ ?_
 ·sizeOf_list_dec
 ·simp_all_arith
 symm
 try dsimp only
 try refine Sk.mk ?_
 refine zn zv ((zx rfl).trans (congrArg some m)) ?_
 symm
 refine Ka (v:=.ref 0) se trivial ?_
 symm
 refine WP (v:=.ref 0) (by exact m) (by right) (by right) nig ⟨hi.1,hi.2,by lia⟩ trivial hbt (by exact hwl) ?_
 try dsimp only
 symm
 exact q2 R' _ x1
end
structure Sm (σ σ':St):Prop where
 top:σ'.top=σ.top
 things:σ'.things=σ.things
 cards:σ'.cards=σ.cards
 pre:σ'.pre=σ.pre
 wcards:σ'.wcards=σ.wcards
 wtop:σ'.wtop=σ.wtop
 bits:σ'.bits=σ.bits
theorem Sm.refl {σ:St}:Sm σ σ:=⟨rfl,rfl,rfl,rfl,rfl,rfl,rfl⟩
theorem Sm.trans {σ σ' σ'':St} (a:Sm σ σ') (b:Sm σ' σ''):Sm σ σ'':=⟨b.top.trans a.top,b.things.trans a.things,b.cards.trans a.cards,b.pre.trans a.pre,b.wcards.trans a.wcards,b.wtop.trans a.wtop,b.bits.trans a.bits⟩
noncomputable def St.put (σ:St) (a:Arr) (i:Int) (v:Val) (r:Nat):St :=
 { σ with stk:=r,cards:=if a.gen > 0∧zE v=true then zB (.int (zZ σ.bits a.addr i)) (.int 1) σ.cards else σ.cards,wcards:=if a.gen > 0∧zE v=true then zB (.int (zZ σ.bits a.addr i)) (.int 1) σ.wcards else σ.wcards,dyn:=zf a.i (.list ((a.vs.map Val.av).set i.toNat v.av)) (zf a.s (.list ((a.vs.map Val.av).set i.toNat v.av)) σ.dyn) }
section
variable {scr:List Int} {d:Nat} {σ:St} {Q:AV→St→Prop} {k s:Int} {rest row:List AV} {n x y:List Nat} {R K:List Ty} {as:List Arr} {wh ix th:AV} {o:Out} {N:Nat}
theorem Bd.grow {R':List Ty} (b:Bd R K as N σ) (x:Ex R R'):Bd R' K as N (σ.setK R') :=
 ⟨b.env.ext x (KT.set x.wf) rfl rfl rfl rfl rfl rfl rfl,by rw [YN b.kn x]; exact b.kn.ext x,b.ki.ext x rfl,b.kl⟩
theorem Bd.stk {r:Nat} (b:Bd R K as N σ):Bd R K as N { σ with stk:=r } :=
 ⟨b.env.move rfl rfl rfl rfl rfl rfl rfl rfl rfl rfl fun _ _ h=>h,⟨b.kn.kinds,b.kn.sub,b.kn.named,b.kn.base,b.kn.nodup⟩,b.ki,b.kl⟩
theorem zih {x:Int} {t w:Ty} {a:Arr} {y i:Int} (hy:y=1∨y=3) (ha:a∈as) (hi:0≤i∧i < a.vs.length) (hu:yn (nm a.e) (nm t)=false) (h0:zd (nm a.e)=0) (x0:x≠0) (hv:V4 as x) (nts:a.t≠a.s) (hbt:0≤σ.bits∧σ.bits≤3) (hcl:σ.cards.length < big) (b:Bd R K as N σ) (hN:N + 1≤1000) (ht:t∈zm) (hw:w∈R) (hc:zQ w=t)
  (nsi:a.s≠a.i) (nsg:a.s≠a.g) (nig:a.i≠a.g) (hwl:σ.wcards.length < big)
  (q1:∀ σ' R' K' r,Ex R R'→Bd R' K' as (N + 2) σ'→Sm σ σ'→Q (.bool true) (σ'.put a i (.ref x) r))
  (q2:∀ σ' R' K' r,Ex R R'→Bd R' K' as (N + 2) σ'→Sm σ σ'→Q (.bool true) { σ' with stk:=r }):WC (cf scr (d + 16)) 137 [.obj 79,.tup [.int 4,.int a.addr],.tup [.int y,.int i],(Val.ref x).av,.str (nm t),.int (kx R w)] σ Q:=by
 have e:=b.env
 have m:=e.af.hit ha
 obtain ⟨ae,ar,l5⟩:=e.el _ ha
 have se:=(zK (zL _ ae).1).1
 have sn:=(zK (zL _ ht).1).1
 obtain ⟨et,hx⟩:=ExT.of hv x0
 refine za rfl rfl ?_
 symm
 refine yu (.ok hy ha hi) e ?_
 symm
 refine zn zv ((zx rfl).trans (congrArg some m)) ?_
 symm
 refine J2 se sn ?_
 rw [hu]
 symm
 refine YJ (v:=.ref x) (kn:=0) se trivial (fun z=>by rw [h0] at z; cases z) ?_
 rw [show yd (nm a.e) 0 (.ref x)=true from by unfold yd; rw [if_pos h0]; rfl]
 symm
 refine zbQ hx b (by lia) ht fun R1 K1 kn1 x1 b1 _ _=>?_
 symm
 refine zbQ hx b1 hN ae fun R2 K2 kn2 x2 b2 z2 _=>?_
 have sm:Sm σ ((σ.setA R1 K1 kn1).setA R2 K2 kn2):=⟨rfl,rfl,rfl,rfl,rfl,rfl,rfl⟩
 have kx2:yE 4 (nm et) (nm a.e)=true→(ze (.tup [.int (kx R2 et),.int (kx R2 a.e)]) ((σ.setA R1 K1 kn1).setA R2 K2 kn2).kin).isSome=true:=z2
 generalize (σ.setA R1 K1 kn1).setA R2 K2 kn2=σ2 at b2 sm kx2 ⊢
 clear z2
 have e2:=b2.env
 have x12:=x1.trans x2
 have hw2:=x12.mem hw
 have L:=zgx b2 (hx.mem e2) (e2.kt.wf.clo _ (e2.el _ ha).2.1) kx2
 rw [← x12.kx hw]
 have m:=e2.af.hit ha
 obtain ⟨D1,D2,D3,D4⟩:=e2.dyn _ ha
 cases hL:yE 4 (nm et) (nm a.e) with
 | true =>
  rw [hL] at L
  have q1:∀ R' r,Ex R2 R'→Q (.bool true) { (σ2.setK R').put a i (.ref x) r with state:=0,told:=[],thrown:=[] }:=fun R' r x3=>by
   have:=q1 _ _ _ r (x12.trans x3) (b2.grow x3) ⟨sm.top,sm.things,sm.cards,sm.pre,sm.wcards,sm.wtop,sm.bits⟩
   dsimp only [St.setK,St.put] at this ⊢
   rw [← Vi e2.st e2.told e2.thrown] at this
   exact this
  symm
  refine YX (x:=x) (L:=true) hy ha hi hu h0 (e2.move rfl rfl rfl rfl rfl rfl rfl rfl rfl rfl fun a ha z1c=>by obtain ⟨D1,D2,D3,D4⟩:=z1c; exact ⟨by right,by right,by right,by right⟩) ht hw2 hc (by right) (fun b hb=>by obtain ⟨D1,D2,D3,D4⟩:=e2.dyn _ hb; exact ⟨by constructor,by constructor,by constructor,by constructor⟩) nts (by show 0≤σ2.bits; rw [sm.bits]; exact hbt.1) (by show σ2.cards.length < big; rw [sm.cards]; exact hcl) (.inr ⟨x0,et,hx,L⟩) (fun _ R' x3=>?_) (fun z=>by cases z)
  dsimp only [St.setK,St.put] at q1 ⊢
  symm
  refine yG (D:=zf a.s (.list ((a.vs.map Val.av).set i.toNat (Val.ref x).av)) σ2.dyn) (by right) (by constructor) (Nat.zero_le _) rfl e2.told e2.thrown (by right) (Nat.le_of_ble_eq_true rfl) rfl ?_ ?_ ?_
  ·sizeOf_list_dec
  ·simp_all_arith
  symm
  try dsimp only
  try refine Sk.mk ?_
  refine zn zv ((zx rfl).trans (congrArg some m)) ?_
  symm
  refine Ka (v:=.ref x) se trivial ?_
  symm
  refine WP (v:=.ref x) (by exact m) (by right) (by right) nig ⟨hi.1,hi.2,by lia⟩ trivial (by show 0≤σ2.bits∧σ2.bits≤3; rw [sm.bits]; exact hbt) (by show σ2.wcards.length < big; rw [sm.wcards]; exact hwl) ?_
  try dsimp only
  symm
  exact q1 R' _ x3
 | false =>
  rw [hL] at L
  have q2:∀ R' r,Ex R2 R'→Q (.bool true) { σ2.setK R' with stk:=r,state:=0,told:=[],thrown:=[] }:=fun R' r x3=>by
   have:=q2 _ _ _ r (x12.trans x3) (b2.grow x3) ⟨sm.top,sm.things,sm.cards,sm.pre,sm.wcards,sm.wtop,sm.bits⟩
   dsimp only [St.setK] at this ⊢
   rw [← Vi e2.st e2.told e2.thrown] at this
   exact this
  symm
  refine YX (x:=x) (L:=false) hy ha hi hu h0 (e2.move rfl rfl rfl rfl rfl rfl rfl rfl rfl rfl fun a ha z2c=>by obtain ⟨D1,D2,D3,D4⟩:=z2c; exact ⟨by right,by right,by right,by right⟩) ht hw2 hc (by right) (fun b hb=>by obtain ⟨D1,D2,D3,D4⟩:=e2.dyn _ hb; exact ⟨by constructor,by constructor,by constructor,by constructor⟩) nts (by show 0≤σ2.bits; rw [sm.bits]; exact hbt.1) (by show σ2.cards.length < big; rw [sm.cards]; exact hcl) (.inr ⟨x0,et,hx,L⟩) (fun z=>by cases z) (fun _ R' x3=>?_)
  dsimp only [St.setK] at q2 ⊢
  symm
  refine yj (c:=27) (D:=σ2.dyn) e2.told rfl (by right) (Nat.le_of_ble_eq_true rfl) (by sizeOf_list_dec) (by simp_all_arith) ?_
  symm
  exact q2 R' _ x3
end
noncomputable def th0:List AV:=[.obj 63,.obj 65,.obj 67,.obj 69,.obj 71,.obj 73,.obj 75]
noncomputable def zP:Int→List Arr→Int→Prop
 | s,[],t=>t=s
 | s,a::l,t=>a.addr=s∧zP (s + zs a.vs.length) l t
structure Ids (a b:Arr):Prop where
 ts:a.t≠b.s
 ti:a.t≠b.i
 tg:a.t≠b.g
 si:a.s≠b.i
 sg:a.s≠b.g
 ig:a.i≠b.g
 ne:a.addr≠b.addr→a.t≠b.t∧a.s≠b.s∧a.i≠b.i∧a.g≠b.g
structure Inv (R K:List Ty) (as:List Arr) (N:Nat) (σ:St):Prop where
 bd:Bd R K as (2 * N) σ
 ids:∀ a∈as,∀ b∈as,Ids a b
 vals:∀ a∈as,∀ v∈a.vs,VOk as v
 things:σ.things=th0++as.map fun a=>.obj a.t
 ch:zP 37 as σ.top
 wtop:σ.wtop=σ.top
 cards:∃ ks:List Int,ks.Nodup∧ks.length≤N∧σ.cards=ks.map fun k=>(.int k,.int 1)
 wc:σ.wcards=σ.cards
 bits:0≤σ.bits∧σ.bits≤3
 pre:σ.pre=-1
 len:as.length≤N
noncomputable def IV (m N:Nat) (σ:St):Prop:=∃ R K as,Inv R K as N σ∧m≤as.length
noncomputable def upd (as:List Arr) (a:Arr) (i:Int) (v:Val):List Arr:=as.map fun b=>if b.addr=a.addr then { b with vs:=b.vs.set i.toNat v } else b
section
variable {σ:St} {R K:List Ty} {as:List Arr} {N:Nat}
inductive zkW (as:List Arr) (a:Arr) (i:Int) (v:Val):Arr→Prop
 | mk (c:Arr) (hc:c∈as) (w:List Val) (hl:w.length=c.vs.length) (h1:c.addr=a.addr→w=c.vs.set i.toNat v) (h2:c.addr≠a.addr→w=c.vs):zkW as a i v { c with vs:=w }
theorem KM {a:Arr} {i:Int} {v:Val} {b:Arr} (h:b∈upd as a i v):zkW as a i v b:=by
 obtain ⟨c,hc,rfl⟩:=List.mem_map.mp h
 by_cases q:c.addr=a.addr
 ·rw [if_pos q]; exact .mk c hc _ (List.length_set ..) (fun _=>rfl) fun z=>absurd q z
 ·rw [if_neg q]; exact (.mk c hc c.vs rfl (fun z=>absurd z q) fun _=>rfl:zkW as a i v { c with vs:=c.vs })
theorem VK {α:Type} {a:Arr} {i:Int} {v:Val} (f:Arr→α) (h:∀ b:Arr,∀ w,f { b with vs:=w }=f b):(upd as a i v).map f=as.map f:=by
 unfold upd
 rw [List.map_map]
 refine List.map_congr_left fun b _=>?_
 show f (if _ then _ else _)=_
 split
 ·exact h _ _
 ·rfl
theorem K9 {a:Arr} {i:Int} {v:Val}:(upd as a i v).length=as.length:=List.length_map ..
theorem zh0 {a:Arr} {i:Int} {v:Val} {x:Int} (h:V4 as x):V4 (upd as a i v) x:=by
 rcases h with h | h | ⟨b,hb,h⟩
 ·exact .inl h
 ·exact .inr (.inl h)
 ·refine .inr (.inr ⟨_,List.mem_map_of_mem hb,?_⟩)
  split <;> exact h
theorem jC {a:Arr} {i:Int} {v:Val} {w:Val} (h:VOk as w):VOk (upd as a i v) w:=⟨h.1,fun x e=>zh0 (h.2 x e)⟩
theorem Wm {a:Arr} {i:Int} {v:Val} {t:Int}:∀ {as:List Arr} {s:Int},zP s as t→zP s (upd as a i v) t
 | [],_,h=>h
 | b::l,s,h=>by
  refine ⟨?_,?_⟩
  ·show (if _ then _ else _:Arr).addr=s
   split <;> exact h.1
  ·show zP (s + zs (List.length (if _ then _ else _:Arr).vs)) (upd l a i v) t
   split
   ·dsimp only; rw [List.length_set]; exact Wm h.2
   ·exact Wm h.2
theorem xh {D:List (Nat×AO)} {a:Arr} {i:Int} {v:Val} (hd:∀ b∈as,Dl D b.t (.inst 3 (tF b.addr (kx R (.arr b.e)) b.s b.gen (zs b.vs.length) b.ser))∧Dl D b.g (.list [.int b.gen]) ∧
  (b.addr=a.addr→Dl D b.s (.list ((b.vs.map Val.av).set i.toNat v.av))∧Dl D b.i (.list ((b.vs.map Val.av).set i.toNat v.av)))∧(b.addr≠a.addr→Dl D b.s (.list (b.vs.map Val.av))∧Dl D b.i (.list (b.vs.map Val.av)))) :
  ∀ b∈upd as a i v,Wz R D b:=by
 intro b hb
 cases KM hb with
 | mk c hc w hl w1 w2 =>
 obtain ⟨h1,h2,h3,h4⟩:=hd c hc
 have h1:Dl D c.t (.inst 3 (tF c.addr (kx R (.arr c.e)) c.s c.gen (zs w.length) c.ser)):=hl ▸ h1
 by_cases q:c.addr=a.addr
 ·have:=h3 q
  rw [← List.map_set,← w1 q] at this
  exact ⟨h1,this.1,this.2,h2⟩
 ·have:=h4 q
  rw [← w2 q] at this
  exact ⟨h1,this.1,this.2,h2⟩
theorem ze3 {ks:List Int} {c:Int} (h:ks.Nodup):∃ ks':List Int,ks'.Nodup∧ks'.length≤ks.length + 1∧zB (.int c) (.int 1) (ks.map fun k=>(AV.int k,AV.int 1))=ks'.map fun k=>(.int k,.int 1):=by
 by_cases q:c∈ks
 ·refine ⟨ks,h,Nat.le_succ _,?_⟩
  induction ks with
  | nil=>cases q
  | cons k ks ih =>
   rw [List.map_cons,ju]
   by_cases e:k=c
   ·subst e; rw [AV.eqb_refl]
   ·have:AV.eqb (.int k) (.int c)=false:=decide_eq_false e
    rw [this]
    dsimp only
    rw [ih (List.nodup_cons.mp h).2 (by rcases List.mem_cons.mp q with z | z; exact absurd z.symm e; exact z)]
 ·refine ⟨ks++[c],List.nodup_append.mpr ⟨h,by simp,by intro x hx y hy; simp at hy; rw [hy]; rintro rfl; exact q hx⟩,by simp,?_⟩
  rw [Jf,List.map_append]; rfl
  exact yk (f:=fun k=>AV.int k) (g:=fun _=>AV.int 1) fun k hk e=>q (by cases e; exact hk)
theorem Inv.cardsB (iv:Inv R K as N σ) (hN:N≤100):σ.cards.length < big∧σ.wcards.length < big:=by
 obtain ⟨ks,_,hl,e⟩:=iv.cards
 rw [iv.wc,e,List.length_map]
 exact ⟨Nat.lt_of_le_of_lt (Nat.le_trans hl hN) (by decide),Nat.lt_of_le_of_lt (Nat.le_trans hl hN) (by decide)⟩
theorem Inv.same {R' K':List Ty} {σ':St} {r:Nat} (iv:Inv R K as N σ) (b:Bd R' K' as (2 * N + 2) σ') (sm:Sm σ σ'):Inv R' K' as (N + 1) { σ' with stk:=r }:=by
 obtain ⟨ks,h1,h2,h3⟩:=iv.cards
 exact ⟨b.stk,iv.ids,iv.vals,sm.things.trans iv.things,by show zP 37 as σ'.top; rw [sm.top]; exact iv.ch,by show σ'.wtop=σ'.top; rw [sm.wtop,sm.top]; exact iv.wtop,⟨ks,h1,Nat.le_succ_of_le h2,sm.cards.trans h3⟩,by show σ'.wcards=σ'.cards; rw [sm.wcards,sm.cards]; exact iv.wc,by show 0≤σ'.bits∧σ'.bits≤3; rw [sm.bits]; exact iv.bits,sm.pre.trans iv.pre,Nat.le_succ_of_le iv.len⟩
theorem Inv.putD {R' K':List Ty} {σ':St} {r:Nat} {a:Arr} {i:Int} {v:Val} {D:List (Nat×AO)} (iv:Inv R K as N σ) (b:Bd R' K' as (2 * N + 2) σ') (sm:Sm σ σ') (hv:VOk as v) (hD:∀ b∈upd as a i v,Wz R' D b) :
  Inv R' K' (upd as a i v) (N + 1) { σ' with stk:=r,cards:=if a.gen > 0∧zE v=true then zB (.int (zZ σ'.bits a.addr i)) (.int 1) σ'.cards else σ'.cards,wcards:=if a.gen > 0∧zE v=true then zB (.int (zZ σ'.bits a.addr i)) (.int 1) σ'.wcards else σ'.wcards,dyn:=D }:=by
 obtain ⟨ks,h1,h2,h3⟩:=iv.cards
 have hc:σ'.wcards=σ'.cards:=by rw [sm.wcards,sm.cards]; exact iv.wc
 have e:=b.env
 refine ⟨⟨⟨⟨e.kt.wf,e.kt.rows,e.kt.index,e.kt.depths,e.kt.opens⟩,⟨?_,?_,?_,?_,?_,?_⟩,hD,?_,e.st,e.told,e.thrown⟩,⟨b.kn.kinds,b.kn.sub,b.kn.named,b.kn.base,b.kn.nodup⟩,b.ki,b.kl⟩,?_,?_,?_,?_,?_,?_,?_,?_,?_,?_⟩
 ·rw [VK _ fun _ _=>rfl]; exact e.af.arrays
 ·rw [VK _ fun _ _=>rfl]; exact e.af.at_
 ·rw [VK _ fun _ _=>rfl]; exact e.af.order
 ·rw [VK _ fun _ _=>rfl]; exact e.af.nd
 ·intro b hb
  cases KM hb with | mk c hc w _ _ _=>exact e.af.rng c hc
 ·rw [K9]; exact e.af.len
 ·intro b hb
  cases KM hb with | mk c hc w hl _ _=>exact ⟨(e.el c hc).1,(e.el c hc).2.1,hl ▸ (e.el c hc).2.2⟩
 ·intro x hx y hy
  cases KM hx with
  | mk c hc w _ _ _ =>
  cases KM hy with
  | mk c' hc' w' _ _ _ =>
  have z:=iv.ids c hc c' hc'
  exact ⟨z.ts,z.ti,z.tg,z.si,z.sg,z.ig,z.ne⟩
 ·intro x hx w hw
  cases KM hx with
  | mk c hc ws hl e10 e11 =>
  by_cases q:c.addr=a.addr
  ·rw [show ws=_ from e10 q] at hw
   rcases List.mem_or_eq_of_mem_set hw with z | z
   ·exact jC (iv.vals c hc w z)
   ·rw [z]; exact jC hv
  ·exact jC (iv.vals c hc w (e11 q ▸ hw))
 ·rw [VK _ fun _ _=>rfl]; exact sm.things.trans iv.things
 ·show zP 37 _ σ'.top
  rw [sm.top]; exact Wm iv.ch
 ·show σ'.wtop=σ'.top
  rw [sm.wtop,sm.top]; exact iv.wtop
 ·show ∃ ks:List Int,ks.Nodup∧ks.length≤N + 1∧(if a.gen > 0∧zE v=true then zB (.int (zZ σ'.bits a.addr i)) (.int 1) σ'.cards else σ'.cards)=ks.map fun k=>(.int k,.int 1)
  by_cases q:a.gen > 0∧zE v=true
  ·rw [if_pos q,sm.cards,h3]
   obtain ⟨ks',p1,p2,p3⟩:=ze3 (c:=zZ σ'.bits a.addr i) h1
   exact ⟨ks',p1,by lia,p3⟩
  ·rw [if_neg q]; exact ⟨ks,h1,Nat.le_succ_of_le h2,sm.cards.trans h3⟩
 ·show (if a.gen > 0∧zE v=true then zB (.int (zZ σ'.bits a.addr i)) (.int 1) σ'.wcards else σ'.wcards)=(if a.gen > 0∧zE v=true then zB (.int (zZ σ'.bits a.addr i)) (.int 1) σ'.cards else σ'.cards)
  rw [hc]
 ·show 0≤σ'.bits∧σ'.bits≤3
  rw [sm.bits]; exact iv.bits
 ·exact sm.pre.trans iv.pre
 ·rw [K9]; exact Nat.le_succ_of_le iv.len
theorem Inv.put {R' K':List Ty} {σ':St} {r:Nat} {a:Arr} {i:Int} {v:Val} (iv:Inv R K as N σ) (b:Bd R' K' as (2 * N + 2) σ') (sm:Sm σ σ') (ha:a∈as) (hv:VOk as v):Inv R' K' (upd as a i v) (N + 1) (σ'.put a i v r):=by
 refine iv.putD b sm hv (xh fun c hc=>?_)
 obtain ⟨D1,D2,D3,D4⟩:=b.env.dyn c hc
 obtain ⟨z1,z2,z3,z4,z5,z6,z7⟩:=iv.ids c hc a ha
 obtain ⟨y1,y2,y3,y4,y5,y6,y7⟩:=iv.ids a ha c hc
 refine ⟨zo z2 (zo z1 D1),zo (Ne.symm y6) (zo (Ne.symm y5) D4),fun q=>?_,fun q=>?_⟩
 ·have:c=a:=J3 b.env.af.nd hc ha q
  subst this
  exact ⟨zo z4 (yy D2.ge),yy D3.ge⟩
 ·have:=z7 q
  exact ⟨zo z4 (zo this.2.1 D2),zo this.2.2.1 (zo (Ne.symm y4) D3)⟩
end
section
variable {scr:List Int} {d:Nat} {σ:St} {Q:AV→St→Prop} {R K:List Ty} {as:List Arr} {wh ix th:AV} {o:Out} {N:Nat}
theorem Bd.le {M:Nat} (b:Bd R K as N σ) (h:N≤M):Bd R K as M σ:=⟨b.env,b.kn,b.ki,Nat.le_trans b.kl h⟩
theorem zew {n:List Nat} {k x:Int} (h:yd n k (.ref x)=true):zd n=0:=by
 by_cases q:zd n=0
 ·exact q
 ·unfold yd at h
  rw [if_neg q] at h
  by_cases q9:zd n=9
  ·rw [if_pos q9] at h; cases h
  ·rw [if_neg q9] at h
   by_cases q8:zd n=8
   ·rw [if_pos q8] at h; cases h
   ·rw [if_neg q8] at h
    by_cases q5:zd n=5
    ·rw [if_pos q5] at h; cases h
    ·rw [if_neg q5] at h; cases h
theorem zgn {n:List Nat} {k:Int} {v:Val} (h:yd n k v=true) (h4:v.tag≠4):zd n≠0:=by
 intro q
 unfold yd at h
 rw [if_pos q] at h
 exact h4 (of_decide_eq_true h)
theorem KD {n:List Nat} {v:Val} (h:VOk as v):VOk as (zG n v):=by
 refine ⟨(VZ h.1).1,?_⟩
 induction v using Val.casesOn with
 | num g i =>
  show ∀ a,((Kc n).elim (Val.num g i) fun p=>.num (Zu n) ((i - p.1) % p.2 + p.1))=.ref a→_
  exact fun a e=>by cases z:Kc n with | none=>rw [z] at e; cases e | some p=>rw [z] at e; cases e
 | _=>exact h.2
theorem KW {R':List Ty}:Sm σ (σ.setK R'):=⟨rfl,rfl,rfl,rfl,rfl,rfl,rfl⟩
theorem VL {v:Val} {t w:Ty} (c:Cls as wh ix o th) (iv:Inv R K as N σ) (hN:N≤100) (ht:t∈zm) (hw:w∈R) (hc:zQ w=t) (hv:VOk as v)
  (q:∀ R' K' as' σ',Inv R' K' as' (N + 1) σ'→as'.length=as.length→Q (.bool true) σ'):WC (cf scr (d + 16)) 137 [.obj 79,wh,ix,v.av,.str (nm t),.int (kx R w)] σ Q:=by
 have b:=iv.bd
 by_cases ho:o=.ok
 ·subst ho
  cases c with
  | ok hy ha hi =>
   rename_i a y i
   have id:=iv.ids a ha a ha
   have qs:∀ R' r,Ex R R'→Q (.bool true) { σ.setK R' with stk:=r }:=fun R' r x=>q _ _ _ _ (iv.same ((b.grow x).le (Nat.le_add_right _ _)) KW) rfl
   cases hu:yn (nm a.e) (nm t) with
   | true=>exact zdB hy ha hi hu b ht hw hc hv qs
   | false =>
    cases hk:yd (nm a.e) (kx R a.e) v with
    | false=>exact zjl hy ha hi hu hk b ht hw hc hv qs
    | true =>
     have big:=iv.cardsB hN
     by_cases h4:v.tag=4
     ·cases v with
      | ref x =>
       have h0:=zew hk
       by_cases x0:x=0
       ·subst x0
        exact zib hy ha hi hu h0 id.ts iv.bits big.1 b ht hw hc id.si id.sg id.ig big.2 fun R' r x=>q _ _ _ _ (iv.put (r:=r) ((b.grow x).le (Nat.le_add_right _ _)) KW ha hv) K9
       ·exact zih hy ha hi hu h0 x0 (hv.2 x rfl) id.ts iv.bits big.1 b (by lia) ht hw hc id.si id.sg id.ig big.2 (fun σ' R' K' r x b' sm=>q _ _ _ _ (iv.put (r:=r) b' sm ha hv) K9) (fun σ' R' K' r x b' sm=>q _ _ _ _ (iv.same b' sm) rfl)
      | num g n=>rcases hv.1 with rfl | rfl | rfl <;> cases h4
      | st k n a=>cases h4
      | ftn=>cases h4
     ·exact zmL hy ha hi hu hk h4 (zgn hk h4) id.ts iv.bits big.1 b ht hw hc hv id.si id.sg id.ig big.2 fun R' r x=>q _ _ _ _ (iv.put (r:=r) ((b.grow x).le (Nat.le_add_right _ _)) KW ha (KD hv)) K9
 ·exact zdw c ho b (by lia) ht hw hv fun R' K' kn r x b'=>q _ _ _ _ (iv.same (b'.le (by lia)) ⟨rfl,rfl,rfl,rfl,rfl,rfl,rfl⟩) rfl
end
noncomputable def thA (R:List Ty) (a:Arr):Th:=⟨a.t,a.addr,kx R (.arr a.e),a.s,a.gen,zs a.vs.length,a.ser⟩
noncomputable def thB:List Th:=[⟨63,16,16,62,0,3,1⟩,⟨65,19,17,64,0,3,2⟩,⟨67,22,18,66,0,3,3⟩,⟨69,25,19,68,0,3,4⟩,⟨71,28,13,70,0,3,5⟩,⟨73,31,7,72,0,3,6⟩,⟨75,34,21,74,0,3,7⟩]
section
variable {scr:List Int} {d:Nat} {σ:St} {Q:AV→St→Prop} {k s:Int} {rest row:List AV} {n x y:List Nat} {R K:List Ty} {as:List Arr} {wh ix th:AV} {o:Out} {N:Nat}
theorem yM (c:Nat):3≤zs c∧2 + (c:Int)≤zs c∧zs c≤3 + (c:Int):=by unfold zs; split <;> lia
theorem zP.ge {t:Int} {as:List Arr}:∀ {s:Int},zP s as t→∀ a∈as,s≤a.addr:=by
 induction as with
 | nil=>exact fun _ _ ha=>absurd ha List.not_mem_nil
 | cons b l ih =>
  intro s h a ha
  rcases List.mem_cons.mp ha with rfl | q
  ·exact Int.le_of_eq h.1.symm
  ·exact Int.le_trans (Int.le_add_of_nonneg_right (Int.le_trans (by decide) (yM b.vs.length).1)) (ih h.2 a q)
theorem zP.sep {t:Int} {as:List Arr}:∀ {s:Int},zP s as t→∀ a∈as,∀ b∈as,a.addr=b.addr∨a.addr + zs a.vs.length≤b.addr∨b.addr + zs b.vs.length≤a.addr:=by
 induction as with
 | nil=>exact fun _ _ ha=>absurd ha List.not_mem_nil
 | cons c l ih =>
  intro s h a ha b hb
  rcases List.mem_cons.mp ha with rfl | p <;> rcases List.mem_cons.mp hb with rfl | q
  ·exact .inl rfl
  ·exact .inr (.inl (by rw [h.1]; exact zP.ge h.2 b q))
  ·exact .inr (.inr (by rw [h.1]; exact zP.ge h.2 a p))
  ·exact ih h.2 a p b q
theorem zP.asc {t:Int}:∀ {as:List Arr} {s:Int} {x:Th},zP s as t→x.a + x.z≤s→0 < x.z→Asc (x::as.map (thA R))
 | [],_,_,_,_,_=>trivial
 | b::l,s,x,h,h1,h2=>by
  have:=yM b.vs.length
  have e:=h.1
  exact ⟨by show x.a + x.z≤b.addr; lia,h2,zP.asc h.2 (by show b.addr + zs b.vs.length≤_; lia) (by show 0 < zs b.vs.length; lia)⟩
theorem zcG {tp i:Int} {v:Val} {a:Arr} (hT:σ.things=th0++as.map fun a=>.obj a.t) (hA:∀ b∈as,Dl σ.dyn b.t (.inst 3 (tF b.addr (kx R (.arr b.e)) b.s b.gen (zs b.vs.length) b.ser))) (hat:σ.at_=at0++as.map fun a=>(.int a.addr,.obj a.t)) (ch:zP 37 as tp) (hl:as.length≤50)
  (ha:a∈as) (hi:0≤i∧i < a.vs.length) (l5:a.vs.length≤5) (hs:Dl σ.dyn a.s (.list (a.vs.map Val.av))) (hv:a.vs[i.toNat]?=some v):∃ l n,El σ l n (thA R a) (a.vs.map Val.av) i v:=by
 obtain ⟨j,hj⟩:=List.getElem?_of_mem ha
 refine ⟨thB++as.map (thA R),7 + j,⟨?_,?_,?_,?_,?_,?_,zu hs,by rw [List.length_map]; exact hi,by rw [List.length_map]; rfl,by rw [List.length_map]; lia,by rw [List.getElem?_map,hv]; rfl⟩⟩
 ·rw [hT,List.map_append,List.map_map]; rfl
 ·intro x hx
  rcases List.mem_append.mp hx with h | h
  ·simp only [thB,List.mem_cons,List.not_mem_nil,or_false] at h
   rcases h with rfl | rfl | rfl | rfl | rfl | rfl | rfl
   ·exact ze2
   ·exact zgr
   ·exact zgK
   ·exact zft
   ·exact zfo
   ·exact zeK
   ·exact zgb
  ·obtain ⟨b,hb,rfl⟩:=List.mem_map.mp h
   exact zu (hA b hb)
 ·exact ⟨by decide,by decide,by decide,by decide,by decide,by decide,by decide,by decide,by decide,by decide,by decide,by decide,ch.asc (by decide) (by decide)⟩
 ·rw [List.getElem?_append_right (by show 7≤7 + j; lia),show 7 + j - thB.length=j from by show 7 + j - 7=j; lia,List.getElem?_map,hj]; rfl
 ·rw [List.length_append,List.length_map]; show 7 + as.length≤60; lia
 ·have w:=yM a.vs.length
  have g:=ch.ge a ha
  show ze (.int (a.addr + 2 + i)) σ.at_=none
  rw [hat,J4,Zk,yk (f:=fun b:Arr=>AV.int b.addr)]; rfl
  ·intro b hb e
   have wb:=yM b.vs.length
   have e:b.addr=a.addr + 2 + i:=by injection e
   rcases ch.sep a ha b hb with z | z | z <;> lia
  ·have:∀ x∈z0,x < 37:=by decide
   intro hm
   have:=this _ hm
   lia
theorem Kj {t r:Nat} {a k' g z u i:Int} (h:Rd σ t (.inst 3 (tF a k' r g z u))) (q:Q (.tup [.int 3,.int (a + 2 + i),.tup []]) σ):WC (cf scr (d + 1)) 54 [.obj t,.int i] σ Q:=by
 refine za rfl rfl ?_
 symm
 refine Kx h rfl rfl ?_
 symm
 exact q
theorem zkz:∀ t∈zm,∀ u∈zm,nm t=nm u→t=u:=by decide
theorem zdd {t w:Ty} {a:Arr} {y i:Int} {sf:Nat} (ro:Bool) (hp:σ.pre=if ro=true then -2 else -1) (hy:y=1∨y=3) (ha:a∈as) (hi:0≤i∧i < a.vs.length) (e:Env R as σ) (ht:t∈zm) (hw:w∈R) (hc:zQ w=t)
  (hs:Dl σ.dyn σ.stk (.list [.tup [.int 1,.int 77],.tup [.int 4,.int a.addr],.tup [.int y,.int i]])) (ns:∀ a∈as,a.t≠σ.stk∧a.s≠σ.stk∧a.i≠σ.stk∧a.g≠σ.stk)
  (q1:¬ (ro=false∧zd (nm t)=0∧a.e≠t)→∀ R',Ex R R'→Q (.int (-1)) { σ.setK R' with pre:=-1,dyn:=zf σ.stk (.list [.tup [.int 1,.int 77],.tup [.int 6,.tup [.int 3,.int (a.addr + 2 + i),.tup []]]]) σ.dyn })
  (q2:(ro=false∧zd (nm t)=0∧a.e≠t)→∀ R',Ex R R'→Q (.int (-2)) { σ.setK R' with pre:=-1,thrown:=[.int 27],dyn:=zf σ.stk (.list [.tup [.int 1,.int 77]]) σ.dyn }):WC (cf scr (d + 13)) 109 [.obj sf,.obj 17,.obj 53,.int (kx R w)] σ Q:=by
 obtain ⟨D1,D2,D3,D4⟩:=e.dyn _ ha
 obtain ⟨n1,n2,n3,n4⟩:=ns _ ha
 obtain ⟨ae,ar,l5⟩:=e.el _ ha
 have hst:=e.st
 have ak:=e.akd ha
 have aR0:a.e∈R:=e.kt.wf.clo _ ar
 have tl:σ.thrown.length < big:=by rw [e.thrown]; decide
 have th:σ.thrown++[AV.int 27]=[AV.int 27]:=by rw [e.thrown]; rfl
 refine za rfl rfl ?_
 symm
 refine yH (.ok hy ha hi) (e.move rfl rfl rfl rfl rfl rfl rfl rfl rfl rfl fun b hb z1c=>by obtain ⟨D1,D2,D3,D4⟩:=z1c; exact by obtain ⟨n1,n2,n3,n4⟩:=ns b hb; exact ⟨by right,by right,by right,by right⟩) ?_
 dsimp only [V7]
 symm
 refine yV (R:=R) (w:=w) (e.kt.of rfl rfl rfl rfl) hw fun R' x1 x2 x3=>?_
 have aR:a.e∈R':=x1.mem aR0
 rw [hc] at x2 ⊢
 dsimp only [St.setK] at q1 q2 ⊢
 have iv:=jU x1.wf ht x2
 obtain ⟨r3,k3⟩:=(KT.set (σ:=σ) x1.wf).Kds x2
 have ak':=zbT x1 ar
 cases ro with
 | true =>
  have hp:σ.pre=-2:=hp
  symm
  refine Kj (zu (by right)) ?_
  symm
  simp only [zX]
  exact q1 (fun h=>by cases h.1) R' x1
 | false =>
  have hp:σ.pre=-1:=hp
  symm
  rw [iv]
  by_cases h0:zd (nm t)=0
  ·rw [decide_eq_true h0]
   symm
   by_cases he:a.e=t
   ·have he':kx R' a.e=kx R' t:=by rw [he]
    symm
    refine Kj (zu (by right)) ?_
    symm
    simp only [zX]
    exact q1 (fun h=>h.2.2 he) R' x1
   ·have he':¬ kx R' a.e=kx R' t:=fun z=>he (Vp aR x2 z)
    symm
    simp only [zX]
    have:=q2 ⟨rfl,h0,he⟩ R' x1
    rw [← th] at this
    exact this
  ·rw [decide_eq_false h0]
   symm
   refine Kj (zu (by right)) ?_
   symm
   simp only [zX]
   exact q1 (fun h=>h0 h.2.1) R' x1
end
section
variable {scr:List Int} {d:Nat} {σ:St} {Q:AV→St→Prop} {k s:Int} {rest row:List AV} {n x y:List Nat} {R K:List Ty} {as:List Arr} {wh ix th:AV} {o:Out} {N:Nat}
theorem zbw {nt:List Nat} {kw z:Int} {ro:Bool} (c:Cls as wh ix o th) (ho:o≠.ok) (e:Env R as σ) (hp:σ.pre=-1) (q:∀ r,Q (.bool true) { σ with stk:=r }):WC (cf scr (d + 16)) 139 [.obj 79,wh,ix,.str nt,.int kw,.bool ro,.int z] σ Q:=by
 obtain ⟨w',c',hu,hw'⟩:=zbt ho
 have q2:∀ r,Q (.bool true) { σ with stk:=r,pre:=-1,state:=0,told:=[],thrown:=[] }:=by
  intro r
  have:=q r
  rw [← Vi e.st e.told e.thrown,hp] at this
  exact this
 refine za rfl rfl ?_
 symm
 refine yu c e ?_
 rw [hu]
 cases ro with
 | true =>
  symm
  refine za rfl rfl ?_
  symm
  refine za rfl rfl ?_
  symm
  refine yl c ho (e.move rfl rfl rfl rfl rfl rfl rfl rfl rfl rfl fun a ha z1c=>by obtain ⟨D1,D2,D3,D4⟩:=z1c; exact ⟨by right,by right,by right,by right⟩) ?_
  dsimp only [V5]
  symm
  refine Jn ho hu (D:=σ.dyn) rfl rfl (by right) (Nat.le_of_ble_eq_true rfl) (by sizeOf_list_dec) (by simp_all_arith) ?_
  symm
  exact q2 _
 | false =>
  symm
  refine za rfl rfl ?_
  symm
  refine yl c ho (e.move rfl rfl rfl rfl rfl rfl rfl rfl rfl rfl fun a ha z2c=>by obtain ⟨D1,D2,D3,D4⟩:=z2c; exact ⟨by right,by right,by right,by right⟩) ?_
  dsimp only [V5]
  symm
  refine Jn ho hu (D:=σ.dyn) rfl rfl (by right) (Nat.le_of_ble_eq_true rfl) (by sizeOf_list_dec) (by simp_all_arith) ?_
  symm
  exact q2 _
theorem zi5 {t w:Ty} {a:Arr} {y i z:Int} (hy:y=1∨y=3) (ha:a∈as) (hi:0≤i∧i < a.vs.length) (h0:zd (nm t)=0) (he:a.e≠t) (e:Env R as σ) (hp:σ.pre=-1) (ht:t∈zm) (hw:w∈R) (hc:zQ w=t)
  (q:∀ R' r,Ex R R'→Q (.bool true) { σ.setK R' with stk:=r }):WC (cf scr (d + 16)) 139 [.obj 79,.tup [.int 4,.int a.addr],.tup [.int y,.int i],.str (nm t),.int (kx R w),.bool false,.int z] σ Q:=by
 have q2:∀ R' r,Ex R R'→Q (.bool true) { σ.setK R' with stk:=r,pre:=-1,state:=0,told:=[],thrown:=[] }:=by
  intro R' r x
  have:=q R' r x
  dsimp only [St.setK] at this ⊢
  rw [← Vi e.st e.told e.thrown,hp] at this
  exact this
 have m:=e.af.hit ha
 obtain ⟨ae,ar,l5⟩:=e.el _ ha
 have sn:=(zK (zL _ ht).1).1
 have ne:¬ nm a.e=nm t:=fun z=>he (zkz _ ae _ ht z)
 refine za rfl rfl ?_
 symm
 refine yu (.ok hy ha hi) e ?_
 symm
 refine zn zv ((zx rfl).trans (congrArg some m)) ?_
 symm
 refine zdd false hp hy ha hi (e.move rfl rfl rfl rfl rfl rfl rfl rfl rfl rfl fun a ha z3c=>by obtain ⟨D1,D2,D3,D4⟩:=z3c; exact ⟨by right,by right,by right,by right⟩) ht hw hc (by right) (fun b hb=>by obtain ⟨D1,D2,D3,D4⟩:=e.dyn _ hb; exact ⟨by constructor,by constructor,by constructor,by constructor⟩) (fun h=>absurd ⟨rfl,h0,he⟩ h) (fun _ R' x1=>?_)
 dsimp only [St.setK] at q2 ⊢
 symm
 refine yj (c:=27) (D:=σ.dyn) e.told rfl (by right) (Nat.le_of_ble_eq_true rfl) (by sizeOf_list_dec) (by simp_all_arith) ?_
 symm
 exact q2 R' _ x1
end
@[irreducible] noncomputable def QT (Q:Bool→St→Prop) (b:Bool) (σ':St):Prop:=∃ σ0,(∀ H,Rep σ' H→Rep σ0 H)∧Q b σ0
theorem zjv {Q:Bool→St→Prop} {b:Bool} {σ':St} (σ0:St) (h:∀ H,Rep σ' H→Rep σ0 H) (q:Q b σ0):QT Q b σ':=by unfold QT; exact ⟨σ0,h,q⟩
theorem WT.drop {scr C e ρ} {σ:St} {Q:Bool→St→Prop} (h:WT scr C e ρ σ (QT Q)):WT scr C e ρ σ Q :=
 .mk fun H hH=>(h.go H hH).mono fun _ _ z1c=>by obtain ⟨_,r,q⟩:=z1c; exact by unfold QT at q; obtain ⟨σ0,a,q⟩:=q; exact ⟨σ0,a _ r,q⟩
section
variable {scr:List Int} {d:Nat} {σ:St} {k s:Int} {rest row:List AV} {n x y:List Nat} {R K:List Ty} {as:List Arr} {wh ix th:AV} {o:Out} {N:Nat}
theorem zhK {ρ:Loc} {Q:Bool→St→Prop} {nt ne:List Nat} {ro:Bool} (h3:zc 3 ρ=some (.str nt)) (h11:zc 11 ρ=some (.str ne)) (h5:zc 5 ρ=some (.bool ro)) (sn:sOk nt=true) (q:Q (decide (ro=false∧zd nt=0∧ne≠nt)) σ) :
  WT scr (cf scr (d + 2)) (.band [(.cmp (.call 120 [(.loc 3)]) [.Eq] [(.int 0)]),(.cmp (.loc 11) [.NotEq] [(.loc 3)]),(.bnot (.loc 5))]) ρ σ Q:=by
 refine qg (zcp (zgX (ZC (VM h3 (zgE (jJ sn (zaB (zjT ?_))))))))
 refine zeD (fun h0=>?_) (fun h0=>?_)
 ·refine qg (zcp (VM h11 (VM h3 (zjK ?_))))
  by_cases h1:ne=nt
  ·refine zkY h1 ?_
   rw [decide_eq_false (fun h=>h.2.2 h1)] at q; exact q
  ·refine zls h1 (qg (zjy (zgH (VM h5 (zpR ?_)))))
   cases ro with
   | true=>rw [decide_eq_false (fun h=>by cases h.1)] at q; exact xw rfl q
   | false=>rw [decide_eq_true ⟨rfl,h0,h1⟩] at q; exact zco rfl (ze5 q)
 ·rw [decide_eq_false (fun h=>h0 h.2.1)] at q; exact q
theorem zqv {ρ:Loc} {Q:Bool→St→Prop} {ro:Bool} (h5:zc 5 ρ=some (.bool ro)) (h7:zc 7 ρ=some (.obj 17)) (h8:zc 8 ρ=some (.obj 53)) (q:Q false { σ with pre:=if ro=true then -2 else σ.pre }) :
  WT scr (cf scr (d + 2)) (.band [(.loc 5),(.cmp (.meth (.new 18 []) 82 [(.loc 7),(.loc 8),(.int 0)]) [.NotEq] [(.neg (.int 1))])]) ρ σ Q:=by
 refine WT.drop (qg (zgH (VM h5 (zpR ?_))))
 cases ro with
 | true =>
  refine zco rfl (qg (zcp (zqX (zfM rfl (NW.mk fun r hr hn=>?_)))))
  refine zpG (by left) rfl rfl (ZC (VM h7 (ZC (VM h8 (ZC (zaB (zgE (za rfl rfl ?_))))))))
  symm
  exact zjI (zaB ⟨_,rfl,zjQ (xw rfl (zjv { σ with pre:=-2 } (fun H h=>Rep.drop (σ:={ σ with pre:=-2 }) h hn) q))⟩)
 | false =>
  exact xw rfl (zjv σ (fun _ h=>h) q)
end
section
variable {scr:List Int} {d:Nat} {σ:St} {Q:AV→St→Prop} {k s:Int} {rest row:List AV} {n x y:List Nat} {R K:List Ty} {as:List Arr} {wh ix th:AV} {o:Out} {N:Nat}
local macro_rules | `(tactic| simp_arith)=>`(tactic| (show WT _ _ _ _ _ _; first | (apply zhK; (rfl); (rfl); (rfl); assumption) | (apply zqv; (rfl); (rfl); rfl)))
theorem zm3 {t w:Ty} {a:Arr} {y i z:Int} {ro:Bool} (hy:y=1∨y=3) (ha:a∈as) (hi:0≤i∧i < a.vs.length) (hF:¬ (ro=false∧zd (nm t)=0∧a.e≠t)) (iv:Inv R K as N σ) (hN:N≤40) (ht:t∈zm) (hw:w∈R) (hc:zQ w=t)
  (q:∀ R' K' as' σ',Inv R' K' as' (N + 1) σ'→as'.length=as.length→Q (.bool true) σ'):WC (cf scr (d + 16)) 139 [.obj 79,.tup [.int 4,.int a.addr],.tup [.int y,.int i],.str (nm t),.int (kx R w),.bool ro,.int z] σ Q:=by
 have e:=iv.bd.env
 have id:=iv.ids a ha a ha
 have m:=e.af.hit ha
 have hp:=iv.pre
 have big:=iv.cardsB (by lia)
 have l50:as.length≤50:=Nat.le_trans iv.len (by lia)
 obtain ⟨D1,D2,D3,D4⟩:=e.dyn _ ha
 obtain ⟨ae,ar,l5⟩:=e.el _ ha
 have se:=(zK (zL _ ae).1).1
 have sn:=(zK (zL _ ht).1).1
 have hF':¬ (ro=false∧zd (nm t)=0∧nm a.e≠nm t):=fun h=>hF ⟨h.1,h.2.1,fun z=>h.2.2 (by rw [z])⟩
 have qsame:∀ R' r D,Ex R R'→(∀ b∈as,Wz R' D b)→Q (.bool true) { σ.setK R' with stk:=r,pre:=-1,state:=0,told:=[],thrown:=[],dyn:=D }:=by
  intro R' r D x hD
  have b1:=(iv.bd.grow x).le (Nat.le_add_right _ 2)
  have:=q _ _ _ _ (iv.same (r:=r) (σ':={ σ.setK R' with dyn:=D }) ⟨b1.env.move rfl rfl rfl rfl rfl rfl rfl rfl rfl rfl fun b hb _=>hD b hb,⟨b1.kn.kinds,b1.kn.sub,b1.kn.named,b1.kn.base,b1.kn.nodup⟩,b1.ki,b1.kl⟩ ⟨rfl,rfl,rfl,rfl,rfl,rfl,rfl⟩) rfl
  dsimp only [St.setK] at this ⊢
  rw [← Vi e.st e.told e.thrown,hp] at this
  exact this
 have qput:∀ R' r v' D,Ex R R'→VOk as v'→(∀ b∈upd as a i v',Wz R' D b)→Q (.bool true) { σ.setK R' with stk:=r,cards:=if a.gen > 0∧zE v'=true then zB (.int (zZ σ.bits a.addr i)) (.int 1) σ.cards else σ.cards,wcards:=if a.gen > 0∧zE v'=true then zB (.int (zZ σ.bits a.addr i)) (.int 1) σ.wcards else σ.wcards,pre:=-1,state:=0,told:=[],thrown:=[],dyn:=D }:=by
  intro R' r v' D x hv hD
  have:=q _ _ _ _ (iv.putD (r:=r) ((iv.bd.grow x).le (Nat.le_add_right _ 2)) KW hv hD) K9
  dsimp only [St.setK] at this ⊢
  rw [← Vi e.st e.told e.thrown,hp] at this
  exact this
 obtain ⟨v0,hv0⟩:∃ v0,a.vs[i.toNat]?=some v0:=⟨_,List.getElem?_eq_getElem (by lia)⟩
 have hv0':(a.vs.map Val.av)[i.toNat]?=some v0.av:=by rw [List.getElem?_map,hv0]; rfl
 refine za rfl rfl ?_
 symm
 refine yu (.ok hy ha hi) e ?_
 symm
 refine zn zv ((zx rfl).trans (congrArg some m)) ?_
 symm
 rename_i r0 _ n0 r1 g1 n1 rs gs n2 ri gi n3
 try refine Sk.mk ?_
 refine zdd ro (by rw [hp]) hy ha hi (e.move rfl rfl rfl rfl rfl rfl rfl rfl rfl rfl fun a ha z2c=>by obtain ⟨D1,D2,D3,D4⟩:=z2c; exact ⟨by right,by right,by right,by right⟩) ht hw hc (by right) (fun b hb=>by obtain ⟨D1,D2,D3,D4⟩:=e.dyn _ hb; exact ⟨by constructor,by constructor,by constructor,by constructor⟩) (fun _ R' x1=>?_) (fun h=>absurd h hF)
 dsimp only [St.setK] at qsame qput ⊢
 symm
 have n4:zc r1 σ.dyn=none:=zb n1
 have m2:zc rs σ.dyn=none:=zb (zb n2)
 have m3:zc ri σ.dyn=none:=zb (zb (zb n3))
 have a1:rs≠r1:=zz n2
 have a3:ri≠r1:=zz (zb n3)
 clear n1 n2 n3
 try refine Sk.mk ?_
 refine yG (r:=r1) (D:=zf r1 (.list [.tup [.int 6,.tup [.int 3,.int (a.addr + 2 + i),.tup []]]]) σ.dyn) (zo a1.symm (zo a3.symm (zo a1.symm (yy g1)))) a1 (by show 1≤10; decide) rfl e.told e.thrown (yy gs) (Nat.le_of_ble_eq_true rfl) rfl (zl (zF a1 m2) (zl (zF a3 m3) (zl (zF a1 m2) (Jp (zl n0 yw))))) (zF a1 m2) ?_
 dsimp only
 clear hF hF'
 have eD:∀ b∈as,Wz R' (zf r1 (.list [.tup [.int 6,.tup [.int 3,.int (a.addr + 2 + i),.tup []]]]) σ.dyn) b:=fun b hb=>by
  obtain ⟨D1,D2,D3,D4⟩:=(e.dyn b hb).ext x1 (e.el b hb).2.1
  exact ⟨YU n4 D1,YU n4 D2,YU n4 D3,YU n4 D4⟩
 have e1:Env R' as { σ.setK R' with stk:=rs,pre:=-1,state:=0,told:=[],thrown:=[],dyn:=zf r1 (.list [.tup [.int 6,.tup [.int 3,.int (a.addr + 2 + i),.tup []]]]) σ.dyn } :=
  (e.ext x1 (KT.set x1.wf) rfl rfl rfl rfl rfl rfl rfl).move rfl rfl rfl rfl rfl rfl rfl e.st.symm e.told.symm e.thrown.symm fun b hb _=>eD b hb
 obtain ⟨E1,E2,E3,E4⟩:=eD a ha
 clear D1 D2 D3 D4
 have hDD:∀ v',∀ b∈upd as a i v',Wz R' (zf a.s (.list ((a.vs.map Val.av).set i.toNat v'.av)) (zf a.i (.list ((a.vs.map Val.av).set i.toNat v'.av)) (zf r1 (.list [.tup [.int 6,.tup [.int 3,.int (a.addr + 2 + i),.tup []]]]) σ.dyn))) b:=fun v'=>xh fun c hc=>by
  obtain ⟨D1,D2,D3,D4⟩:=eD c hc
  obtain ⟨z1,z2,z3,z4,z5,z6,z7⟩:=iv.ids c hc a ha
  obtain ⟨y1,y2,y3,y4,y5,y6,y7⟩:=iv.ids a ha c hc
  refine ⟨zo z1 (zo z2 D1),zo (Ne.symm y5) (zo (Ne.symm y6) D4),fun q=>?_,fun q=>?_⟩
  ·have:c=a:=J3 e.af.nd hc ha q
   subst this
   exact ⟨yy D2.ge,zo (Ne.symm y4) (yy D3.ge)⟩
  ·have:=z7 q
   exact ⟨zo this.2.1 (zo z4 D2),zo (Ne.symm y4) (zo this.2.2.1 D3)⟩
 have Et:∀ v',∀ b∈as,Dl (zf a.i (.list ((a.vs.map Val.av).set i.toNat (v':Val).av)) (zf r1 (.list [.tup [.int 6,.tup [.int 3,.int (a.addr + 2 + i),.tup []]]]) σ.dyn)) b.t (.inst 3 (tF b.addr (kx R' (.arr b.e)) b.s b.gen (zs b.vs.length) b.ser)):=fun v' b hb=>zo (iv.ids b hb a ha).ti (eD b hb).t
 symm
 refine zn zv ((zx rfl).trans (congrArg some m)) ?_
 symm
 obtain ⟨l,n,el⟩:=zcG (σ:={ σ.setK R' with stk:=rs,pre:=-1,state:=0,told:=[],thrown:=[],dyn:=zf r1 (.list [.tup [.int 6,.tup [.int 3,.int (a.addr + 2 + i),.tup []]]]) σ.dyn }) iv.things (fun b hb=>(eD b hb).t) e.af.at_ iv.ch l50 ha hi l5 E2 hv0
 try refine Sk.mk ?_
 refine qN (x:=thA R' a) el ?_
 symm
 refine zor (xs:=.int v0.tag::v0.rest) (ys:=.int v0.tag::v0.rest) (by cases v0 <;> rfl) ?_
 rw [AV.eqbs_refl]
 symm
 by_cases h0:zd (nm a.e)=0
 ·refine za rfl rfl ?_
  symm
  refine KA e.af.order e.af.len fun b hb=>?_
  symm
  refine Ka (v:=.ref b) se trivial ?_
  rw [show zG (nm a.e) (.ref b)=.ref b from rfl]
  symm
  by_cases b0:b=0
  ·symm
   refine WP (v:=.ref b) (by exact m) (by right) (by right) id.ig ⟨hi.1,hi.2,by lia⟩ trivial iv.bits (by exact big.2) ?_
   dsimp only
   symm
   obtain ⟨l,n,el⟩:=zcG (σ:={ σ.setK R' with stk:=rs,pre:=-1,state:=0,told:=[],thrown:=[],wcards:=if a.gen > 0∧zE (.ref b)=true then zB (.int (zZ σ.bits a.addr i)) (.int 1) σ.wcards else σ.wcards,dyn:=zf a.i (.list ((a.vs.map Val.av).set i.toNat (Val.ref b).av)) (zf r1 (.list [.tup [.int 6,.tup [.int 3,.int (a.addr + 2 + i),.tup []]]]) σ.dyn) }) iv.things (Et _) e.af.at_ iv.ch l50 ha hi l5 (zo id.si E2) hv0
   try refine Sk.mk ?_
   refine JZ (x:=thA R' a) el (Et _ a ha) (zo id.si E2) id.ts trivial iv.bits.1 (by exact big.1) ?_
   dsimp only
   symm
   exact qput R' _ (.ref b) _ x1 ⟨trivial,fun x z=>by cases z; exact hb⟩ (hDD _)
  ·obtain ⟨et,hx⟩:=ExT.of hb b0
   symm
   refine jz hx e1 ?_
   symm
   refine qT (zK (hx.nmd e1).1).1 se (YH _ (hx.nmd e1).1) ?_
   cases yE 4 (nm et) (nm a.e) with
   | false =>
    symm
    exact qsame R' _ _ x1 eD
   | true =>
    symm
    refine WP (v:=.ref b) (by exact m) (by right) (by right) id.ig ⟨hi.1,hi.2,by lia⟩ trivial iv.bits (by exact big.2) ?_
    dsimp only
    symm
    obtain ⟨l,n,el⟩:=zcG (σ:={ σ.setK R' with stk:=rs,pre:=-1,state:=0,told:=[],thrown:=[],wcards:=if a.gen > 0∧zE (.ref b)=true then zB (.int (zZ σ.bits a.addr i)) (.int 1) σ.wcards else σ.wcards,dyn:=zf a.i (.list ((a.vs.map Val.av).set i.toNat (Val.ref b).av)) (zf r1 (.list [.tup [.int 6,.tup [.int 3,.int (a.addr + 2 + i),.tup []]]]) σ.dyn) }) iv.things (Et _) e.af.at_ iv.ch l50 ha hi l5 (zo id.si E2) hv0
    try refine Sk.mk ?_
    refine JZ (x:=thA R' a) el (Et _ a ha) (zo id.si E2) id.ts trivial iv.bits.1 (by exact big.1) ?_
    dsimp only
    symm
    exact qput R' _ (.ref b) _ x1 ⟨trivial,fun x z=>by cases z; exact hb⟩ (hDD _)
 ·refine Y8 e.af.order e.af.len se (fun z=>⟨_,iv.bd.kn.hit (iv.bd.kn.base _ (sh9 _ ae z))⟩) fun v hv=>?_
  symm
  refine Ka se hv.1 ?_
  symm
  refine WP (v:=zG (nm a.e) v) (by exact m) (by right) (by right) id.ig ⟨hi.1,hi.2,by lia⟩ (KD hv).1 iv.bits (by exact big.2) ?_
  dsimp only
  symm
  obtain ⟨l,n,el⟩:=zcG (σ:={ σ.setK R' with stk:=rs,pre:=-1,state:=0,told:=[],thrown:=[],wcards:=if a.gen > 0∧zE (zG (nm a.e) v)=true then zB (.int (zZ σ.bits a.addr i)) (.int 1) σ.wcards else σ.wcards,dyn:=zf a.i (.list ((a.vs.map Val.av).set i.toNat (zG (nm a.e) v).av)) (zf r1 (.list [.tup [.int 6,.tup [.int 3,.int (a.addr + 2 + i),.tup []]]]) σ.dyn) }) iv.things (Et _) e.af.at_ iv.ch l50 ha hi l5 (zo id.si E2) hv0
  try refine Sk.mk ?_
  refine JZ (x:=thA R' a) el (Et _ a ha) (zo id.si E2) id.ts (KD hv).1 iv.bits.1 (by exact big.1) ?_
  dsimp only
  symm
  exact qput R' _ (zG (nm a.e) v) _ x1 (KD hv) (hDD _)
end
section
variable {scr:List Int} {d:Nat} {σ:St} {Q:AV→St→Prop} {R K:List Ty} {as:List Arr} {wh ix th:AV} {o:Out} {N:Nat}
theorem zfY {t w:Ty} {z:Int} {ro:Bool} (c:Cls as wh ix o th) (iv:Inv R K as N σ) (hN:N≤40) (ht:t∈zm) (hw:w∈R) (hc:zQ w=t)
  (q:∀ R' K' as' σ',Inv R' K' as' (N + 1) σ'→as'.length=as.length→Q (.bool true) σ'):WC (cf scr (d + 16)) 139 [.obj 79,wh,ix,.str (nm t),.int (kx R w),.bool ro,.int z] σ Q:=by
 have b:=iv.bd
 have qs:∀ R' r,Ex R R'→Q (.bool true) { σ.setK R' with stk:=r }:=fun R' r x=>q _ _ _ _ (iv.same ((b.grow x).le (Nat.le_add_right _ _)) KW) rfl
 by_cases ho:o=.ok
 ·subst ho
  cases c with
  | ok hy ha hi =>
   rename_i a y i
   by_cases hF:ro=false∧zd (nm t)=0∧a.e≠t
   ·obtain ⟨rfl,h0,he⟩:=hF
    exact zi5 hy ha hi h0 he b.env iv.pre ht hw hc qs
   ·exact zm3 hy ha hi hF iv hN ht hw hc q
 ·refine zbw c ho b.env iv.pre fun r=>?_
  have:=qs R r (.refl b.env.kt.wf)
  rw [b.env.kt.self] at this
  exact this
theorem zfQ {t w:Ty} (c:Cls as wh ix o th) (iv:Inv R K as N σ) (ht:t∈zm) (hw:w∈R) (hc:zQ w=t)
  (q:∀ R' K' as' σ',Inv R' K' as' (N + 1) σ'→as'.length=as.length→Q (.bool true) σ'):WC (cf scr (d + 14)) 138 [.obj 79,wh,ix,.str (nm t),.int (kx R w)] σ Q:=by
 refine ziR c iv.bd.env iv.bd.kn ht hw hc (fun a ha v hv=>(iv.vals a ha v hv).1) fun R' r x _=>?_
 rw [← YN iv.bd.kn x]
 exact q _ _ _ _ (iv.same ((iv.bd.grow x).le (Nat.le_add_right _ _)) KW) rfl
theorem zbG (wc:WhC as wh) (iv:Inv R K as N σ) (q:∀ R' K' as' σ',Inv R' K' as' (N + 1) σ'→as'.length=as.length→Q (.bool true) σ'):WC (cf scr (d + 9)) 141 [.obj 79,wh] σ Q :=
 zdH wc iv.bd.env fun r=>q _ _ _ _ (iv.same (r:=r) (iv.bd.le (Nat.le_add_right _ _)) .refl) rfl
theorem zkA {g i:Int} (wc:WhC as wh) (h:g=1∨g=3∨(g=2∧i=0)):∃ o th,Cls as wh (.tup [.int g,.int i]) o th:=by
 by_cases hg:g=1∨g=3
 ·cases wc with
  | arr ha =>
   rename_i a
   by_cases hi:0≤i∧i < a.vs.length
   ·exact ⟨_,_,.ok hg ha hi⟩
   ·exact ⟨_,_,.oob hg ha (by lia)⟩
  | null=>exact ⟨_,_,.null hg⟩
  | obj hx=>exact ⟨_,_,.obj hg hx⟩
  | far=>exact ⟨_,_,.far hg⟩
  | num h4=>exact ⟨_,_,.wh hg h4⟩
 ·exact ⟨_,_,.ix (fun z=>hg (.inl z)) (fun z=>hg (.inr z))⟩
end
section
variable {scr:List Int} {d:Nat} {σ:St} {Q:AV→St→Prop} {k s:Int} {rest row:List AV} {n x y:List Nat} {R K:List Ty} {as:List Arr} {wh ix th:AV} {o:Out} {N:Nat}
theorem Bd.growN {R' K':List Ty} (b:Bd R K as N σ) (x:Ex R R') (kt:KT R' (σ.setN R' K')) (kn:KN R' K' (σ.setN R' K')):Bd R' K' as N (σ.setN R' K') :=
 ⟨b.env.ext x kt rfl rfl rfl rfl rfl rfl rfl,kn,b.ki.ext x rfl,b.kl⟩
theorem zkC {kn:Int} (h:sOk n=true) (hk:zd n=9→ze (.str n) σ.kinds=some (.int kn)) (q:Q (Jb n kn).av σ):WC (cf scr (d + 4)) 126 [.obj 79,.str n] σ Q:=by
 refine za rfl rfl ?_
 by_cases h0:zd n=0
 ·rw [show Jb n kn=.ref 0 from if_pos h0] at q
  symm
  exact q
 by_cases h9:zd n=9
 ·rw [show Jb n kn=.st kn 0 0 from (if_neg h0).trans (if_pos h9)] at q
  symm
  refine zn Yl ((zt (yc h)).trans (congrArg some (hk h9))) ?_
  symm
  exact q
 rw [show Jb n kn=zG n (.num 1 0) from (if_neg h0).trans (if_neg h9)] at q
 symm
 refine Ka (v:=.num 1 0) h (.inl rfl) ?_
 symm
 exact q
theorem zey {n:List Nat} {k:Int}:VOk as (Jb n k):=by
 unfold Jb
 split
 ·exact ⟨trivial,fun a e=>by cases e; exact .inl rfl⟩
 ·split
  ·exact ⟨trivial,fun a e=>by cases e⟩
  ·exact KD ⟨.inl rfl,fun a e=>by cases e⟩
theorem zP.le {t:Int}:∀ {as:List Arr} {s:Int},zP s as t→(∀ a∈as,a.vs.length≤5)→s≤t∧t≤s + 8 * as.length
 | [],s,h,_=>by have:t=s:=h; simp; lia
 | a::l,s,h,hb=>by
  have:=zP.le h.2 fun b hb'=>hb b (by simp [hb'])
  have w:=yM a.vs.length
  have:=hb a (by simp)
  rw [List.length_cons]
  lia
theorem zP.app {t:Int} {a:Arr}:∀ {as:List Arr} {s:Int},zP s as t→a.addr=t→zP s (as++[a]) (t + zs a.vs.length)
 | [],s,h,e=>by have h:t=s:=h; exact ⟨e.trans h,by rw [h]; rfl⟩
 | b::l,s,h,e=>⟨h.1,zP.app h.2 e⟩
theorem Inv.make {R' K':List Ty} {t:Ty} {c:Int} {t' s' i' g' r:Nat} {m fr W ser:Int} {D:List (Nat×AO)} (iv:Inv R K as N σ) (hN:N≤40) (x:Ex R R') (kt:KT R' (σ.setN R' K')) (kn:KN R' K' (σ.setN R' K')) (ht:t∈zm) (hm:.arr t∈R') (hc:0≤c∧c≤5)
  (ft:zc t' σ.dyn=none) (fs:zc s' σ.dyn=none) (fi:zc i' σ.dyn=none) (fg:zc g' σ.dyn=none) (d1:t'≠s') (d2:t'≠i') (d3:t'≠g') (d4:s'≠i') (d5:s'≠g') (d6:i'≠g')
  (hW:W=σ.wtop + zs c) (hD:Sub σ.dyn D) (hDn:Wz R' D ⟨t',s',i',g',t,List.replicate c.toNat (Jb (nm t) (kx R' t)),0,σ.top,ser⟩) :
  Inv R' K' (as++[⟨t',s',i',g',t,List.replicate c.toNat (Jb (nm t) (kx R' t)),0,σ.top,ser⟩]) (N + 1)
   { σ.setN R' K' with stk:=r,made:=m,things:=σ.things++[.obj t'],at_:=zB (.int σ.top) (.obj t') σ.at_,top:=σ.top + zs c,fresh:=fr,arrays:=zB (.int σ.wtop) (.tup [.str (nm t),.obj i',.obj g']) σ.arrays,order:=σ.order++[.int σ.wtop],wtop:=W,dyn:=D }:=by
 have e:=iv.bd.env
 have b:=(iv.bd.growN x kt kn).env
 have l5:∀ a∈as,a.vs.length≤5:=fun a ha=>(e.el a ha).2.2
 have cl:=iv.ch.le l5
 have ln:=iv.len
 have cn:c.toNat≤5:=by lia
 have lenE:((List.replicate c.toNat (Jb (nm t) (kx R' t))).length:Int)=c:=by rw [List.length_replicate]; lia
 have fresh:∀ a∈as,a.addr≠σ.top:=fun a ha=>by
  obtain ⟨j,hj⟩:=List.getElem?_of_mem ha
  have:=iv.ch
  have aux:∀ {as:List Arr} {s:Int},zP s as σ.top→a∈as→a.addr < σ.top:=by
   intro as
   induction as with
   | nil=>intro s _ h; cases h
   | cons b l ih =>
    intro s h hm
    rcases List.mem_cons.mp hm with rfl | hm
    ·have w:=yM a.vs.length
     have:=h.1
     have le:∀ {as:List Arr} {s:Int},zP s as σ.top→s≤σ.top:=by
      intro as
      induction as with
      | nil=>intro s h; have h:σ.top=s:=h; lia
      | cons b l ih=>intro s h; have:=ih h.2; have:=yM b.vs.length; lia
     have:=le h.2
     lia
    ·exact ih h.2 hm
  have:=aux this ha
  lia
 have ids:∀ a∈as,a.t≠t'∧a.t≠s'∧a.t≠i'∧a.t≠g'∧a.s≠t'∧a.s≠s'∧a.s≠i'∧a.s≠g'∧a.i≠t'∧a.i≠s'∧a.i≠i'∧a.i≠g'∧a.g≠t'∧a.g≠s'∧a.g≠i'∧a.g≠g':=fun a ha=>by
  obtain ⟨D1,D2,D3,D4⟩:=e.dyn a ha
  exact ⟨zI D1 ft,zI D1 fs,zI D1 fi,zI D1 fg,zI D2 ft,zI D2 fs,zI D2 fi,zI D2 fg,zI D3 ft,zI D3 fs,zI D3 fi,zI D3 fg,zI D4 ft,zI D4 fs,zI D4 fi,zI D4 fg⟩
 have sub:∀ {p o},Dl σ.dyn p o→Dl D p o:=fun h=>.mk h.ge (hD _ _ h.at)
 have mem:∀ {P:Arr→Prop},(∀ a∈as,P a)→P ⟨t',s',i',g',t,List.replicate c.toNat (Jb (nm t) (kx R' t)),0,σ.top,ser⟩→∀ a∈as++[⟨t',s',i',g',t,List.replicate c.toNat (Jb (nm t) (kx R' t)),0,σ.top,ser⟩],P a:=by
  intro P h1 h2 a ha
  rcases List.mem_append.mp ha with h | h
  ·exact h1 a h
  ·rw [List.mem_singleton] at h; rw [h]; exact h2
 have ref:∀ {z},V4 as z→V4 (as++[⟨t',s',i',g',t,List.replicate c.toNat (Jb (nm t) (kx R' t)),0,σ.top,ser⟩]) z:=by
  intro z h
  rcases h with h | h | ⟨b,hb,h⟩
  ·exact .inl h
  ·exact .inr (.inl h)
  ·exact .inr (.inr ⟨b,List.mem_append_left _ hb,h⟩)
 have am:=e.af.miss fresh
 refine ⟨⟨⟨⟨kt.wf,kt.rows,kt.index,kt.depths,kt.opens⟩,⟨?_,?_,?_,?_,?_,?_⟩,?_,?_,e.st,e.told,e.thrown⟩,⟨kn.kinds,kn.sub,kn.named,kn.base,kn.nodup⟩,(iv.bd.ki.ext x rfl:KI R' (σ.setN R' K')),Nat.le_trans iv.bd.kl (by lia)⟩,?_,?_,?_,?_,?_,?_,?_,iv.bits,iv.pre,?_⟩
 ·show zB (.int σ.wtop) _ σ.arrays=_
  rw [iv.wtop,Jf am,e.af.arrays,List.map_append]; rfl
 ·show zB (.int σ.top) _ σ.at_=_
  rw [Jf (e.af.at_miss fresh (fun h=>absurd ((by decide:∀ x∈z0,x < 37) _ h) (by lia))),e.af.at_,List.map_append,List.append_assoc]; rfl
 ·show σ.order++[.int σ.wtop]=_
  rw [iv.wtop,e.af.order,List.map_append]; rfl
 ·rw [List.map_append]
  refine List.nodup_append.mpr ⟨e.af.nd,by simp,?_⟩
  intro z hz w hw
  obtain ⟨a,ha,rfl⟩:=List.mem_map.mp hz
  simp at hw
  rw [hw]
  exact fresh a ha
 ·exact mem e.af.rng (by show 37≤σ.top∧σ.top < 5000; lia)
 ·rw [List.length_append]; show as.length + 1≤60; lia
 ·exact mem (fun a ha=>by obtain ⟨D1,D2,D3,D4⟩:=b.dyn a ha; exact ⟨sub D1,sub D2,sub D3,sub D4⟩) hDn
 ·exact mem b.el ⟨ht,hm,by show (List.replicate _ _).length≤5; rw [List.length_replicate]; exact cn⟩
 ·refine mem (fun a ha=>mem (fun b hb=>iv.ids a ha b hb) ?_) (mem (fun b hb=>?_) ?_)
  ·obtain ⟨z1,z2,z3,z4,z5,z6,z7,z8,z9,y1,y2,y3,y4,y5,y6,y7⟩:=ids a ha
   exact ⟨z2,z3,z4,z7,z8,y3,fun _=>⟨z1,z6,y2,y7⟩⟩
  ·obtain ⟨z1,z2,z3,z4,z5,z6,z7,z8,z9,y1,y2,y3,y4,y5,y6,y7⟩:=ids b hb
   exact ⟨z5.symm,z9.symm,y4.symm,y1.symm,y5.symm,y6.symm,fun _=>⟨z1.symm,z6.symm,y2.symm,y7.symm⟩⟩
  ·exact ⟨d1,d2,d3,d4,d5,d6,fun h=>absurd rfl h⟩
 ·refine mem (fun a ha v hv=>⟨(iv.vals a ha v hv).1,fun z hz=>ref ((iv.vals a ha v hv).2 z hz)⟩) fun v hv=>?_
  have:v=Jb (nm t) (kx R' t):=(List.mem_replicate.mp hv).2
  rw [this]; exact zey
 ·show σ.things++_=_
  rw [iv.things,List.map_append,List.append_assoc]; rfl
 ·have:=iv.ch.app (a:=⟨t',s',i',g',t,List.replicate c.toNat (Jb (nm t) (kx R' t)),0,σ.top,ser⟩) rfl
  show zP 37 _ (σ.top + zs c)
  rw [show zs c=zs ((List.replicate c.toNat (Jb (nm t) (kx R' t))).length:Int) from by rw [lenE]]; exact this
 ·show W=σ.top + zs c
  rw [hW,iv.wtop]
 ·obtain ⟨ks,h1,h2,h3⟩:=iv.cards
  exact ⟨ks,h1,Nat.le_succ_of_le h2,h3⟩
 ·exact iv.wc
 ·rw [List.length_append]; show as.length + 1≤N + 1; lia
end
section
variable {scr:List Int} {d:Nat} {σ:St} {Q:AV→St→Prop} {k s:Int} {rest row:List AV} {n x y:List Nat} {R K:List Ty} {as:List Arr} {wh ix th:AV} {o:Out} {N:Nat}
theorem Vn {t:Ty} {ob:Bool} {g c:Int} (h:(g≠1∧g≠3)∨(g=1∨g=3)∧c < 0∨(g=1∨g=3)∧1000000 < c) (b:Bd R K as N σ) (ht:t∈zm)
  (q:∀ R' K' r,Ex R R'→KT R' (σ.setN R' K')→KN R' K' (σ.setN R' K')→Q (.bool true) { σ.setN R' K' with stk:=r }):WC (cf scr (d + 13)) 140 [.obj 79,.str (nm t),.bool ob,.tup [.int g,.int c]] σ Q:=by
 have e:=b.env
 have q2:∀ R' K' r,Ex R R'→KT R' (σ.setN R' K')→KN R' K' (σ.setN R' K')→Q (.bool true) { σ.setN R' K' with stk:=r,state:=0,told:=[],thrown:=[] }:=by
  intro R' K' r x x4 x5
  have:=q R' K' r x x4 x5
  dsimp only [St.setN,St.setK] at this ⊢
  rw [← Vi e.st e.told e.thrown] at this
  exact this
 have tl':σ.told++[AV.tup [.int 1,.int 1,.int 0]]=[AV.tup [.int 1,.int 1,.int 0]]:=by rw [e.told]; rfl
 have tl:σ.told.length < big:=by rw [e.told]; decide
 have xl:σ.thrown.length < big:=by rw [e.thrown]; decide
 have hst:=e.st
 refine za rfl rfl ?_
 rcases h with ⟨h1,h3⟩ | ⟨rfl | rfl,hc⟩ | ⟨rfl | rfl,hc⟩
 ·symm
  rename_i r0 _ n0 rs gs n1 ri gi n2
  have m1:zc rs σ.dyn=none:=zb n1
  have m2:zc ri σ.dyn=none:=zb (zb n2)
  try refine Sk.mk ?_
  refine yO ht (e.kt.of rfl rfl rfl rfl) ⟨b.kn.kinds,b.kn.sub,b.kn.named,b.kn.base,b.kn.nodup⟩ fun R' K' w x1 hw hc _ x4 x5=>?_
  have q3:=q2 R' K' rs x1 (x4.of rfl rfl rfl rfl) ⟨x5.kinds,x5.sub,x5.named,x5.base,x5.nodup⟩
  dsimp only [St.setN,St.setK] at q3 ⊢
  symm
  refine za rfl rfl ?_
  symm
  refine yD (c:=1) (D:=σ.dyn) tl' e.thrown (yy gs) (Nat.le_of_ble_eq_true rfl) (zl m1 (zl m2 (zl m1 (zl n0 yw)))) m1 ?_
  symm
  exact q3
 ·symm
  rename_i r0 _ n0 rs gs n1 ri gi n2
  have m1:zc rs σ.dyn=none:=zb n1
  have m2:zc ri σ.dyn=none:=zb (zb n2)
  try refine Sk.mk ?_
  refine yO ht (e.kt.of rfl rfl rfl rfl) ⟨b.kn.kinds,b.kn.sub,b.kn.named,b.kn.base,b.kn.nodup⟩ fun R' K' w x1 hw hc _ x4 x5=>?_
  have q3:=q2 R' K' rs x1 (x4.of rfl rfl rfl rfl) ⟨x5.kinds,x5.sub,x5.named,x5.base,x5.nodup⟩
  dsimp only [St.setN,St.setK] at q3 ⊢
  symm
  refine za rfl rfl ?_
  symm
  refine yj (c:=26) (D:=σ.dyn) e.told (by show σ.thrown++_=_; rw [e.thrown]; rfl) (yy gs) (Nat.le_of_ble_eq_true rfl) (zl m1 (zl m2 (zl m1 (zl n0 yw)))) m1 ?_
  symm
  exact q3
 ·symm
  rename_i r0 _ n0 rs gs n1 ri gi n2
  have m1:zc rs σ.dyn=none:=zb n1
  have m2:zc ri σ.dyn=none:=zb (zb n2)
  try refine Sk.mk ?_
  refine yO ht (e.kt.of rfl rfl rfl rfl) ⟨b.kn.kinds,b.kn.sub,b.kn.named,b.kn.base,b.kn.nodup⟩ fun R' K' w x1 hw hc _ x4 x5=>?_
  have q3:=q2 R' K' rs x1 (x4.of rfl rfl rfl rfl) ⟨x5.kinds,x5.sub,x5.named,x5.base,x5.nodup⟩
  dsimp only [St.setN,St.setK] at q3 ⊢
  symm
  refine za rfl rfl ?_
  symm
  refine yj (c:=26) (D:=σ.dyn) e.told (by show σ.thrown++_=_; rw [e.thrown]; rfl) (yy gs) (Nat.le_of_ble_eq_true rfl) (zl m1 (zl m2 (zl m1 (zl n0 yw)))) m1 ?_
  symm
  exact q3
 ·symm
  rename_i r0 _ n0 rs gs n1 ri gi n2
  have m1:zc rs σ.dyn=none:=zb n1
  have m2:zc ri σ.dyn=none:=zb (zb n2)
  try refine Sk.mk ?_
  refine yO ht (e.kt.of rfl rfl rfl rfl) ⟨b.kn.kinds,b.kn.sub,b.kn.named,b.kn.base,b.kn.nodup⟩ fun R' K' w x1 hw hc _ x4 x5=>?_
  have q3:=q2 R' K' rs x1 (x4.of rfl rfl rfl rfl) ⟨x5.kinds,x5.sub,x5.named,x5.base,x5.nodup⟩
  dsimp only [St.setN,St.setK] at q3 ⊢
  symm
  refine za rfl rfl ?_
  symm
  refine yj (c:=30) (D:=σ.dyn) e.told (by show σ.thrown++_=_; rw [e.thrown]; rfl) (yy gs) (Nat.le_of_ble_eq_true rfl) (zl m1 (zl m2 (zl m1 (zl n0 yw)))) m1 ?_
  symm
  exact q3
 ·symm
  rename_i r0 _ n0 rs gs n1 ri gi n2
  have m1:zc rs σ.dyn=none:=zb n1
  have m2:zc ri σ.dyn=none:=zb (zb n2)
  try refine Sk.mk ?_
  refine yO ht (e.kt.of rfl rfl rfl rfl) ⟨b.kn.kinds,b.kn.sub,b.kn.named,b.kn.base,b.kn.nodup⟩ fun R' K' w x1 hw hc _ x4 x5=>?_
  have q3:=q2 R' K' rs x1 (x4.of rfl rfl rfl rfl) ⟨x5.kinds,x5.sub,x5.named,x5.base,x5.nodup⟩
  dsimp only [St.setN,St.setK] at q3 ⊢
  symm
  refine za rfl rfl ?_
  symm
  refine yj (c:=30) (D:=σ.dyn) e.told (by show σ.thrown++_=_; rw [e.thrown]; rfl) (yy gs) (Nat.le_of_ble_eq_true rfl) (zl m1 (zl m2 (zl m1 (zl n0 yw)))) m1 ?_
  symm
  exact q3
end
section
variable {scr:List Int} {d:Nat} {σ:St} {Q:AV→St→Prop} {k s:Int} {rest row:List AV} {n x y:List Nat} {R K:List Ty} {as:List Arr} {wh ix th:AV} {o:Out} {N:Nat}
theorem elU:∀ t∈zm,Ty.arr t∈Un:=by decide
theorem Jy {t:Ty} {ob:Bool} {g c:Int} (hg:g=1∨g=3) (hc:0≤c∧c≤5) (iv:Inv R K as N σ) (hN:N≤40) (ht:t∈zm)
  (q:∀ R' K' as' σ',Inv R' K' as' (N + 1) σ'→as'.length=as.length + 1→Q (.bool true) σ'):WC (cf scr (d + 13)) 140 [.obj 79,.str (nm t),.bool ob,.tup [.int g,.int c]] σ Q:=by
 have b:=iv.bd
 have e:=b.env
 have hal:σ.arrays.length < big:=by rw [e.af.arrays,List.length_map]; exact Nat.lt_of_le_of_lt e.af.len (by decide)
 have hol:σ.order.length < big:=by rw [e.af.order,List.length_map]; exact Nat.lt_of_le_of_lt e.af.len (by decide)
 have htl:σ.things.length < big:=by rw [iv.things,List.length_append,List.length_map]; exact Nat.lt_of_le_of_lt (Nat.add_le_add_left e.af.len _) (by decide)
 have hatl:σ.at_.length < big:=by rw [e.af.at_,List.length_append,List.length_map]; exact Nat.lt_of_le_of_lt (Nat.add_le_add_left e.af.len _) (by decide)
 have sn:=(zK (zL _ ht).1).1
 refine za rfl rfl ?_
 rcases hg with rfl | rfl
 all_goals
  symm
  rename_i r0 _ n0 r1 g1 n1
  try refine Sk.mk ?_
  refine zkC (kn:=kx R t) sn (fun z=>b.kn.hit (b.kn.base _ (sh9 _ ht z))) ?_
  symm
  refine zfb (by left) ⟨hc.1,by lia,Nat.le_of_ble_eq_true rfl⟩ ?_
  rw [List.flatten_replicate_singleton]
  symm
  rename_i rd gd nd ri gi ni rg gg ng rs gs ns rj gj nj
  have f1:zc r1 σ.dyn=none:=(zb n1)
  have fd:zc rd σ.dyn=none:=(zb (zb nd))
  have fi:zc ri σ.dyn=none:=(zb (zb (zb ni)))
  have fg:zc rg σ.dyn=none:=(zb (zb (zb (zb ng))))
  have fs:zc rs σ.dyn=none:=(zb (zb (zb (zb (zb ns)))))
  have fj:zc rj σ.dyn=none:=(zb (zb (zb (zb (zb (zb nj))))))
  have sg:rs≠rg:=zz ns
  have si:rs≠ri:=zz (zb ns)
  have s1:rs≠r1:=zz (zb (zb (zb ns)))
  have jg:rj≠rg:=zz (zb nj)
  have ji:rj≠ri:=zz (zb (zb nj))
  have js:rj≠rs:=zz nj
  have j1:rj≠r1:=zz (zb (zb (zb (zb nj))))
  have gi':rg≠ri:=zz ng
  have g1':rg≠r1:=zz (zb (zb ng))
  have i1:ri≠r1:=zz (zb ni)
  have d1:rd≠r1:=zz nd
  have id:ri≠rd:=zz ni
  have gd':rg≠rd:=zz (zb ng)
  clear n1 nd ni ng ns nj
  try refine Sk.mk ?_
  refine yO ht (e.kt.of rfl rfl rfl rfl) ⟨b.kn.kinds,b.kn.sub,b.kn.named,b.kn.base,b.kn.nodup⟩ fun R1 K1 w x1 hw hcl _ x4 x5=>?_
  have x4':=x4.wf
  have x5s:=x5.sub
  have x5n:=x5.named
  have x5b:=x5.base
  have x5d:=x5.nodup
  clear x5
  dsimp only [St.setN,St.setK] at x4 ⊢
  symm
  refine za rfl rfl ?_
  symm
  refine yV (R:=R1) (w:=w) (x4.of rfl rfl rfl rfl) hw fun R2 x6 x7 x8=>?_
  rw [hcl] at x7 ⊢
  dsimp only [St.setK] at x8 ⊢
  symm
  refine j7 (R:=R2) (t:=t) x8 x7 (elU _ ht) fun R3 y1 y2 y3=>?_
  have x13:Ex R R3:=x1.trans (x6.trans y1)
  have r1K:Ex R1 R3:=x6.trans y1
  have kd:=(KT.set (σ:=σ) y1.wf).Kd y2
  have k25:25≤kx R3 (.arr t):=zjL y1.wf y2 (fun i z=>by cases z)
  have tR3:t∈R3:=y1.mem x7
  dsimp only [St.setK] at y3 kd ⊢
  symm
  refine zfB (j:=kx R3 t) kd k25 ⟨hc.1,by lia⟩ (by exact htl) (by exact hatl) fun t' s' gs' ns' gt' nt'=>?_
  have fs':zc s' σ.dyn=none:=(zb (zb (zb (zb (zb (zb (zb (zb ns'))))))))
  have ft':zc t' σ.dyn=none:=(zb (zb (zb (zb (zb (zb (zb (zb (zb nt')))))))))
  have ss:s'≠rs:=zz ns'
  have sj':s'≠rj:=zz (zb ns')
  have sg':s'≠rg:=zz (zb (zb (zb ns')))
  have si':s'≠ri:=zz (zb (zb (zb (zb ns'))))
  have s1':s'≠r1:=zz (zb (zb (zb (zb (zb (zb ns'))))))
  have ts':t'≠s':=zz nt'
  have tS:t'≠rs:=zz (zb nt')
  have tg':t'≠rg:=zz (zb (zb (zb (zb nt'))))
  have ti':t'≠ri:=zz (zb (zb (zb (zb (zb nt')))))
  have t1':t'≠r1:=zz (zb (zb (zb (zb (zb (zb (zb nt')))))))
  clear ns' nt'
  dsimp only
  symm
  refine yG (r:=r1) (ys:=[.tup [.int 4,.int σ.wtop]]) (D:=zf t' (.inst 3 (tF σ.top (kx R3 (.arr t)) s' 0 (zs c) (σ.made + 1))) (zf s' (.list (List.replicate c.toNat (Vz (kx R3 t)).av)) (zf rg (.list [.int 0]) (zf ri (.list (List.replicate c.toNat (Jb (nm t) (kx R t)).av)) σ.dyn))))
   (zo s1.symm (zo t1'.symm (zo s1'.symm (zo s1.symm (zo j1.symm (zo s1.symm (zo g1'.symm (zo i1.symm (zo d1.symm (yy g1)))))))))) s1 (by show 1≤10; decide) rfl e.told e.thrown (yy gs) (Nat.le_of_ble_eq_true rfl) (by rw [iv.wtop])
   (zl (zF tS.symm (zF ss.symm (zF sg (zF si fs)))) (Jp (Jp (zl (zF sg (zF si fs)) (zl (zF jg (zF ji fj)) (zl (zF sg (zF si fs)) (Jp (Jp (zl fd (zl f1 (zl n0 yw)))))))))))
   (zF tS.symm (zF ss.symm (zF sg (zF si fs)))) ?_
  dsimp only
  symm
  have ld:Jb (nm t) (kx R t)=Jb (nm t) (kx R3 t):=by
   by_cases h9:zd (nm t)=9
   ·rw [x13.kx (b.kn.sub _ (b.kn.base _ (sh9 _ ht h9)))]
   ·unfold Jb; rw [if_neg h9,if_neg h9]
  have wl:zs c=zs (((List.replicate c.toNat (Jb (nm t) (kx R3 t))).length:Nat):Int):=by rw [List.length_replicate]; congr 1; lia
  have:=q _ _ _ _ (iv.make (t:=t) (c:=c) (t':=t') (s':=s') (i':=ri) (g':=rg) (r:=rs) (m:=σ.made + 1) (fr:=σ.fresh + zs c) (W:=σ.wtop + if 3 < 2 + c then 2 + c else 3) (ser:=σ.made + 1)
   (D:=zf t' (.inst 3 (tF σ.top (kx R3 (.arr t)) s' 0 (zs c) (σ.made + 1))) (zf s' (.list (List.replicate c.toNat (Vz (kx R3 t)).av)) (zf rg (.list [.int 0]) (zf ri (.list (List.replicate c.toNat (Jb (nm t) (kx R t)).av)) σ.dyn))))
   hN x13 (K':=K1) ⟨y1.wf,rfl,rfl,rfl,rfl⟩ ⟨rfl,fun t ht=>r1K.mem (x5s t ht),x5n,x5b,x5d⟩ ht y2 hc ft' fs' fi fg ts' ti' tg' si' sg' gi'.symm (by unfold zs; split <;> split <;> lia)
   (zl ft' (zl fs' (zl fg (zl fi yw))))
   ⟨by rw [← wl]; exact yy gt',by rw [List.map_replicate,← zny y1.wf ht tR3]; exact zo ts'.symm (yy gs'),by rw [List.map_replicate,← ld]; exact zo ti'.symm (zo si'.symm (zo gi'.symm (yy gi))),zo tg'.symm (zo sg'.symm (yy gg))⟩) (by rw [List.length_append]; rfl)
  dsimp only [St.setN,St.setK] at this ⊢
  rw [← Vi e.st e.told e.thrown] at this
  rw [zbZ r1K x5s]
  exact this
end
section
variable {scr:List Int} {d:Nat} {σ:St} {Q:AV→St→Prop} {k s:Int} {rest row:List AV} {n x y:List Nat} {R K:List Ty} {as:List Arr} {wh ix th:AV} {o:Out} {N:Nat}
theorem Inv.growN {R' K':List Ty} (iv:Inv R K as N σ) (x:Ex R R') (kt:KT R' (σ.setN R' K')) (kn:KN R' K' (σ.setN R' K')):Inv R' K' as N (σ.setN R' K') :=
 ⟨iv.bd.growN x kt kn,iv.ids,iv.vals,iv.things,iv.ch,iv.wtop,iv.cards,iv.wc,iv.bits,iv.pre,iv.len⟩
noncomputable def IVq (m N:Nat) (Q:AV→St→Prop):Prop:=∀ R' K' as' σ',Inv R' K' as' N σ'→m≤as'.length→Q (.bool true) σ'
theorem zc4 {t:Ty} {ob:Bool} {g c:Int} (hc:0≤c∧c≤5∨c < 0∨1000000 < c) (iv:Inv R K as N σ) (hN:N≤40) (ht:t∈zm)
  (q:IVq as.length (N + 1) Q):WC (cf scr (d + 13)) 140 [.obj 79,.str (nm t),.bool ob,.tup [.int g,.int c]] σ Q:=by
 have no:∀ R' K' r,Ex R R'→KT R' (σ.setN R' K')→KN R' K' (σ.setN R' K')→Q (.bool true) { σ.setN R' K' with stk:=r }:=fun R' K' r x kt kn =>
  q _ _ _ _ (iv.same (r:=r) ((iv.bd.growN x kt kn).le (Nat.le_add_right _ _)) ⟨rfl,rfl,rfl,rfl,rfl,rfl,rfl⟩) (Nat.le_refl _)
 by_cases hg:g=1∨g=3
 ·rcases hc with hc | hc | hc
  ·exact Jy hg hc iv hN ht fun R' K' as' σ' i l=>q _ _ _ _ i (by lia)
  ·exact Vn (.inr (.inl ⟨hg,hc⟩)) iv.bd ht no
  ·exact Vn (.inr (.inr ⟨hg,hc⟩)) iv.bd ht no
 ·exact Vn (.inl ⟨fun z=>hg (.inl z),fun z=>hg (.inr z)⟩) iv.bd ht no
local macro_rules | `(tactic| ac_rfl)=>`(tactic| first | assumption | exact Kh | (apply yr; (exact rfl); ac_rfl) | exact rfl)
local macro_rules | `(tactic| simp_arith)=>`(tactic| first | refine Sk.mk ?_ | (apply Ov.mk; ac_rfl))
theorem Jg {ρ:Loc} {so u y z l:Int} {ob:Bool} (h0:al 0 ρ=some (.obj 79)) (h3:al 3 ρ=some (.int y)) (h4:al 4 ρ=some (.int z)) (h5:al 5 ρ=some (.int so)) (h6:al 6 ρ=some (.int u)) (h7:al 7 ρ=some (.bool ob)) (h10:al 10 ρ=some wh) (h11:al 11 ρ=some (.int l))
  (hs:0≤so∧so≤7∧so≠5∧so≠6) (iv:Inv R K as N σ) (hN:N≤40) (wc:WhC as wh) (hl:0≤l∧l≤100) (hlw:0 < l→∃ a∈as,wh=.tup [.int 4,.int a.addr]) (q:IVq as.length (N + 1) Q) :
  LP scr (cf scr (d + 17)) (.set (.name 12) (.call 143 [(.loc 3),(.loc 11)])) ρ σ (Jt (wS scr (cf scr (d + 17)) [
 .set (.name 13) (.call 144 [(.loc 0),(.loc 10),(.bin .FloorDiv (.loc 6) (.int 4))]),
 .set (.name 14) (.call 125 [(.loc 0),(.loc 13),(.loc 7)]),
 .ite (.bor [(.cmp (.loc 5) [.LtE] [(.int 1)]),(.cmp (.loc 5) [.Eq] [(.int 7)])]) [.set (.name 15) (.loc 13),
  .ite (.cmp (.loc 11) [.Gt] [(.int 0)]) [.set (.name 15) (.idx (.idx (.idx (.loc 0) (.str [97,114,114,97,121,115])) (.idx (.loc 10) (.int 1))) (.int 0))] [],
  .ret (.call 137 [(.loc 0),(.loc 10),(.loc 12),(.call 129 [(.loc 0),(.loc 15),(.loc 4)]),(.loc 13),(.loc 14)])] [],
 .ite (.cmp (.loc 5) [.LtE] [(.int 3)]) [.ret (.call 138 [(.loc 0),(.loc 10),(.loc 12),(.loc 13),(.loc 14)])] [],
 .ret (.call 139 [(.loc 0),(.loc 10),(.loc 12),(.loc 13),(.loc 14),(.cmp (.bin .Mod (.bin .FloorDiv (.loc 6) (.int 2)) (.int 2)) [.Eq] [(.int 1)]),(.loc 4)])]) (Jw Q)):=by
 refine zmM ?_
 symm
 refine zjj hl fun g i hgi=>?_
 symm
 refine ziX wc iv.bd.env fun t ht=>?_
 symm
 refine yO ht iv.bd.env.kt iv.bd.kn fun R' K' w x1 hw hc _ kt kn=>?_
 obtain ⟨o,th,c⟩:=zkA wc hgi
 have iv':=iv.growN x1 kt kn
 have q':∀ R' K' as' σ',Inv R' K' as' (N + 1) σ'→as'.length=as.length→Q (.bool true) σ':=fun R' K' as' σ' i e=>(q _ _ _ _ i (Nat.le_of_eq e.symm))
 generalize σ.setN R' K'=σ1 at iv' ⊢
 clear kt kn
 have e:=iv'.bd.env
 have s9:∀ {t},t∈zm→zd (nm t)=9→∃ kn,ze (.str (nm t)) σ1.kinds=some (.int kn):=fun ht z=>⟨_,iv'.bd.kn.hit (iv'.bd.kn.base _ (sh9 _ ht z))⟩
 have sS:∃ kn,ze (.str [115]) σ1.kinds=some (.int kn):=⟨_,iv'.bd.kn.hit (t:=.base 22) (iv'.bd.kn.base _ (by decide))⟩
 have sn:=(zK (zL _ ht).1).1
 symm
 by_cases c0:so≤1
 ·skip
  by_cases l0:0 < l
  ·obtain ⟨a,ha,rfl⟩:=hlw l0
   have m:=e.af.hit ha
   have ae:=(e.el _ ha).1
   symm
   refine zn zv ((zx rfl).trans (congrArg some m)) ?_
   symm
   refine KR e.af.order e.af.len (zK (zL _ ae).1).1 (s9 ae) sS fun v hv=>?_
   symm
   exact VL c iv' (by lia) ht hw hc hv q'
  ·symm
   refine KR e.af.order e.af.len sn (s9 ht) sS fun v hv=>?_
   symm
   exact VL c iv' (by lia) ht hw hc hv q'
 by_cases c7:so=7
 ·skip
  by_cases l0:0 < l
  ·obtain ⟨a,ha,rfl⟩:=hlw l0
   have m:=e.af.hit ha
   have ae:=(e.el _ ha).1
   symm
   refine zn zv ((zx rfl).trans (congrArg some m)) ?_
   symm
   refine KR e.af.order e.af.len (zK (zL _ ae).1).1 (s9 ae) sS fun v hv=>?_
   symm
   exact VL c iv' (by lia) ht hw hc hv q'
  ·symm
   refine KR e.af.order e.af.len sn (s9 ht) sS fun v hv=>?_
   symm
   exact VL c iv' (by lia) ht hw hc hv q'
 by_cases c3:so≤3
 ·symm
  exact zfQ c iv' ht hw hc q'
 ·symm
  exact zfY c iv' hN ht hw hc q'
end
noncomputable def age (as:List Arr) (a:Arr) (g:Int):List Arr:=as.map fun b=>if b.addr=a.addr then { b with gen:=g } else b
section
variable {scr:List Int} {d:Nat} {σ:St} {Q:AV→St→Prop} {k s:Int} {rest row:List AV} {n x y:List Nat} {R K:List Ty} {as:List Arr} {wh ix th:AV} {o:Out} {N:Nat}
inductive zlQ (as:List Arr) (a:Arr) (g:Int):Arr→Prop
 | mk (c:Arr) (hc:c∈as) (w:Int) (h1:c.addr=a.addr→w=g) (h2:c.addr≠a.addr→w=c.gen):zlQ as a g { c with gen:=w }
theorem KO {a:Arr} {g:Int} {b:Arr} (h:b∈age as a g):zlQ as a g b:=by
 obtain ⟨c,hc,rfl⟩:=List.mem_map.mp h
 by_cases q:c.addr=a.addr
 ·rw [if_pos q]; exact .mk c hc g (fun _=>rfl) fun z=>absurd q z
 ·rw [if_neg q]; exact (.mk c hc c.gen (fun z=>absurd z q) fun _=>rfl:zlQ as a g { c with gen:=c.gen })
theorem VX {α:Type} {a:Arr} {g:Int} (f:Arr→α) (h:∀ b:Arr,∀ w,f { b with gen:=w }=f b):(age as a g).map f=as.map f:=by
 unfold age
 rw [List.map_map]
 refine List.map_congr_left fun b _=>?_
 show f (if _ then _ else _)=_
 split
 ·exact h _ _
 ·rfl
theorem xa {a:Arr} {g:Int}:(age as a g).length=as.length:=List.length_map ..
theorem WA {a:Arr} {g:Int} {t:Int}:∀ {as:List Arr} {s:Int},zP s as t→zP s (age as a g) t
 | [],_,h=>h
 | b::l,s,h=>by
  refine ⟨?_,?_⟩
  ·show (if _ then _ else _:Arr).addr=s
   split <;> exact h.1
  ·show zP (s + zs (List.length (if _ then _ else _:Arr).vs)) (age l a g) t
   split
   ·dsimp only; exact WA h.2
   ·exact WA h.2
theorem Inv.age {a:Arr} {g:Int} (iv:Inv R K as N σ) (ha:a∈as):Inv R K (age as a g) N { σ with dyn:=zf a.t (.inst 3 (tF a.addr (kx R (.arr a.e)) a.s g (zs a.vs.length) a.ser)) (zf a.g (.list [.int g]) σ.dyn) }:=by
 have b:=iv.bd
 have e:=b.env
 refine ⟨⟨⟨⟨e.kt.wf,e.kt.rows,e.kt.index,e.kt.depths,e.kt.opens⟩,⟨?_,?_,?_,?_,?_,?_⟩,?_,?_,e.st,e.told,e.thrown⟩,⟨b.kn.kinds,b.kn.sub,b.kn.named,b.kn.base,b.kn.nodup⟩,b.ki,b.kl⟩,?_,?_,?_,?_,iv.wtop,iv.cards,iv.wc,iv.bits,iv.pre,?_⟩
 ·rw [VX _ fun _ _=>rfl]; exact e.af.arrays
 ·rw [VX _ fun _ _=>rfl]; exact e.af.at_
 ·rw [VX _ fun _ _=>rfl]; exact e.af.order
 ·rw [VX _ fun _ _=>rfl]; exact e.af.nd
 ·intro b hb
  cases KO hb with | mk c hc w _ _=>exact e.af.rng c hc
 ·rw [xa]; exact e.af.len
 ·intro b hb
  cases KO hb with
  | mk c hc w h1 h2 =>
  obtain ⟨D1,D2,D3,D4⟩:=e.dyn c hc
  have y:=iv.ids a ha c hc
  by_cases q:c.addr=a.addr
  ·have:=J3 e.af.nd hc ha q
   subst this
   rw [h1 rfl]
   exact ⟨yy D1.ge,zo y.ts.symm (zo y.sg D2),zo y.ti.symm (zo y.ig D3),zo y.tg.symm (yy D4.ge)⟩
  ·have z:=iv.ids c hc a ha
   have w:=z.ne q
   rw [h2 q]
   exact ⟨zo w.1 (zo z.tg D1),zo y.ts.symm (zo z.sg D2),zo y.ti.symm (zo z.ig D3),zo y.tg.symm (zo w.2.2.2 D4)⟩
 ·intro b hb
  cases KO hb with | mk c hc w _ _=>exact e.el c hc
 ·intro x hx y hy
  cases KO hx with
  | mk c hc w _ _ =>
  cases KO hy with
  | mk c' hc' w' _ _ =>
  have z:=iv.ids c hc c' hc'
  exact ⟨z.ts,z.ti,z.tg,z.si,z.sg,z.ig,z.ne⟩
 ·intro x hx w hw
  cases KO hx with
  | mk c hc w' _ _ =>
  refine ⟨(iv.vals c hc w hw).1,fun z hz=>?_⟩
  rcases (iv.vals c hc w hw).2 z hz with h | h | ⟨b,hb,h⟩
  ·exact .inl h
  ·exact .inr (.inl h)
  ·refine .inr (.inr ⟨_,List.mem_map_of_mem hb,?_⟩)
   split <;> exact h
 ·rw [VX _ fun _ _=>rfl]; exact iv.things
 ·exact WA iv.ch
 ·rw [xa]; exact iv.len
theorem zl9 {a:Arr} {g:Int} {wh:AV} (h:WhC as wh):WhC (Pl.age as a g) wh:=by
 cases h with
 | arr ha =>
  rename_i b
  have:(if b.addr=a.addr then { b with gen:=g } else b:Arr).addr=b.addr:=by split <;> rfl
  rw [← this]
  exact .arr (List.mem_map_of_mem ha)
 | null=>exact .null
 | obj h=>exact .obj h
 | far=>exact .far
 | num h=>exact .num h
theorem zm7 {a:Arr} {g:Int} (ha:a∈as):{ a with gen:=g }∈Pl.age as a g:=List.mem_map.mpr ⟨a,ha,if_pos rfl⟩
noncomputable def YE:List AV:=[.int 0,.int 1,.int 2,.int 3,.int 5,.int (-1),.int (-2147483648),.int 2147483647]
noncomputable def zpN:Option AV→Bool
 | some (.int c)=>decide (0≤c∧c≤5∨c < 0∨1000000 < c)
 | _=>false
theorem zdR (z:Int):∃ c,YE[(z.fmod 8).toNat]?=some (.int c)∧(0≤c∧c≤5∨c < 0∨1000000 < c):=by
 have h:∀ i < 8,zpN YE[i]?=true:=by decide
 have:=h (z.fmod 8).toNat (by have:0≤z.fmod 8∧z.fmod 8 < 8:=zS z (m:=8) (by decide); lia)
 cases e:YE[(z.fmod 8).toNat]? with
 | none=>rw [e] at this; cases this
 | some v =>
  rw [e] at this
  cases v with
  | int c=>exact ⟨c,rfl,of_decide_eq_true this⟩
  | _=>cases this
local macro_rules | `(tactic| ac_rfl)=>`(tactic| first | assumption | exact Kh | (apply yr; (exact rfl); ac_rfl) | exact rfl)
theorem zgY {o x y z:Int} (iv:Inv R K as N σ) (hN:N≤40) (ha0:0 < as.length) (q:IVq as.length (N + 1) Q):WC (cf scr (d + 18)) 145 [.obj 79,.int o,.int x,.int y,.int z] σ Q:=by
 have e:=iv.bd.env
 have m8:0≤o.fmod 8∧o.fmod 8 < 8:=zS o (m:=8) (by decide)
 have m22:∀ w:Int,0≤w.fmod 22∧w.fmod 22 < 22:=fun w=>zS w (m:=22) (by decide)
 refine za rfl rfl ?_
 by_cases c5:o.fmod 8=5
 ·obtain ⟨t1,ht1,e1⟩:=qt (x.fmod 22).toNat ((Int.toNat_lt (m22 x).1).mpr (m22 x).2)
  have b1:0≤x.fmod 22∧x.fmod 22 < 1000000:=⟨(m22 x).1,Int.lt_trans (m22 x).2 (by decide)⟩
  have b2:0≤y.fmod 8∧y.fmod 8 < 1000000:=⟨(zS y (m:=8) (by decide)).1,Int.lt_trans (zS y (m:=8) (by decide)).2 (by decide)⟩
  obtain ⟨c,hv,hc⟩:=zdR y
  unfold YE at hv
  by_cases c6:z.fmod 7=6
  ·symm
   exact zc4 hc iv hN ht1 fun R' K' as' σ' i l=>(q _ _ _ _ i l)
  ·symm
   exact zc4 hc iv hN ht1 fun R' K' as' σ' i l=>(q _ _ _ _ i l)
 symm
 refine zis e.af.order e.af.len ha0 fun wh wc=>?_
 symm
 by_cases c6:o.fmod 8=6
 ·symm
  exact zbG wc iv fun R' K' as' σ' i l=>(q _ _ _ _ i (Nat.le_of_eq l.symm))
 have hs:0≤o.fmod 8∧o.fmod 8≤7∧o.fmod 8≠5∧o.fmod 8≠6:=by lia
 have hn:WhC as wh:=wc
 cases wc with
 | num hg =>
  symm
  exact (Jg (by ac_rfl) (by ac_rfl) (by ac_rfl) (by ac_rfl) (by ac_rfl) (by ac_rfl) (by ac_rfl) (by ac_rfl) hs iv hN hn (by lia) (fun h=>absurd h (by lia)) q)
 | null =>
  have m:=e.af.miss (e.no (x:=0) (.inl (by decide)))
  symm
  refine zk zv (zx rfl) ?_
  rw [m]
  symm
  exact (Jg (by ac_rfl) (by ac_rfl) (by ac_rfl) (by ac_rfl) (by ac_rfl) (by ac_rfl) (by ac_rfl) (by ac_rfl) hs iv hN hn (by lia) (fun h=>absurd h (by lia)) q)
 | far =>
  have m:=e.af.miss (e.no (x:=5000) (.inr (by decide)))
  symm
  refine zk zv (zx rfl) ?_
  rw [m]
  symm
  exact (Jg (by ac_rfl) (by ac_rfl) (by ac_rfl) (by ac_rfl) (by ac_rfl) (by ac_rfl) (by ac_rfl) (by ac_rfl) hs iv hN hn (by lia) (fun h=>absurd h (by lia)) q)
 | obj hx =>
  have ho:∀ x∈z0,x < 37:=by decide
  have m:=e.af.miss (e.no (.inl (ho _ hx)))
  symm
  refine zk zv (zx rfl) ?_
  rw [m]
  symm
  exact (Jg (by ac_rfl) (by ac_rfl) (by ac_rfl) (by ac_rfl) (by ac_rfl) (by ac_rfl) (by ac_rfl) (by ac_rfl) hs iv hN hn (by lia) (fun h=>absurd h (by lia)) q)
 | arr ha =>
  rename_i a
  have m:=e.af.hit ha
  have mt:=e.af.at ha
  obtain ⟨D1,D2,D3,D4⟩:=e.dyn _ ha
  obtain ⟨lb1,lb2⟩:=e.lenb ha
  have l5:=(e.el _ ha).2.2
  symm
  refine zk zv (zx rfl) ?_
  rw [m]
  symm
  refine zn zv ((zx rfl).trans (congrArg some m)) ?_
  symm
  rw [List.length_map]
  by_cases c7:o.fmod 8=7
  ·have ntg:=(iv.ids a ha a ha).tg
   symm
   refine zn zv ((zx rfl).trans (congrArg some m)) ?_
   symm
   refine YC D4 ⟨by decide,by show (0:Int) < ((1:Nat):Int); decide,by decide⟩ ?_
   symm
   refine zn Zo ((zt rfl).trans (congrArg some mt)) ?_
   symm
   exact (Jg (by ac_rfl) (by ac_rfl) (by ac_rfl) (by ac_rfl) (by ac_rfl) (by ac_rfl) (by ac_rfl) (by ac_rfl) hs (iv.age ha) hN (zl9 hn) (by lia) (fun _=>⟨_,zm7 ha,rfl⟩) (by rw [xa]; exact q))
  ·symm
   exact (Jg (by ac_rfl) (by ac_rfl) (by ac_rfl) (by ac_rfl) (by ac_rfl) (by ac_rfl) (by ac_rfl) (by ac_rfl) hs iv hN hn (by lia) (fun _=>⟨a,ha,rfl⟩) q)
end
noncomputable def W0 (b:Int):AH:=[.inst 12 [(47,.obj 1),(72,.obj 6),(73,.obj 7),(74,.obj 8),(75,.obj 9),(76,.obj 10),(77,.int 0)],.inst 2 [(2,.obj 2),(3,.obj 3),(4,.obj 4),(5,.obj 5)],.list [.tup [.int 1,.int 0],.tup [.int 1,.int 1],.tup [.int 1,.int 2],.tup [.int 1,.int 3],.tup [.int 1,.int 4],.tup [.int 1,.int 5],.tup [.int 1,.int 6],.tup [.int 1,.int 7],.tup [.int 1,.int 8],.tup [.int 1,.int 9],.tup [.int 1,.int 10],.tup [.int 1,.int 11],.tup [.int 1,.int 12],.tup [.int 1,.int 13],.tup [.int 1,.int 14],.tup [.int 1,.int 15],.tup [.int 2,.int 64,.tup []],.tup [.int 2,.int 65,.tup []],.tup [.int 2,.int 66,.tup []],.tup [.int 2,.int 67,.tup []],.tup [.int 2,.int 68,.tup []],.tup [.int 3,.int 69,.tup []],.tup [.int 3,.int 70,.tup []],.tup [.int 3,.int 72,.tup []],.tup [.int 2,.int 71,.tup [.int 16,.int 8]]],.dict (some .tup) [(.tup [.int 1,.int 0],.int 0),(.tup [.int 1,.int 1],.int 1),(.tup [.int 1,.int 2],.int 2),(.tup [.int 1,.int 3],.int 3),(.tup [.int 1,.int 4],.int 4),(.tup [.int 1,.int 5],.int 5),(.tup [.int 1,.int 6],.int 6),(.tup [.int 1,.int 7],.int 7),(.tup [.int 1,.int 8],.int 8),(.tup [.int 1,.int 9],.int 9),(.tup [.int 1,.int 10],.int 10),(.tup [.int 1,.int 11],.int 11),(.tup [.int 1,.int 12],.int 12),(.tup [.int 1,.int 13],.int 13),(.tup [.int 1,.int 14],.int 14),(.tup [.int 1,.int 15],.int 15),(.tup [.int 2,.int 64,.tup []],.int 16),(.tup [.int 2,.int 65,.tup []],.int 17),(.tup [.int 2,.int 66,.tup []],.int 18),(.tup [.int 2,.int 67,.tup []],.int 19),(.tup [.int 2,.int 68,.tup []],.int 20),(.tup [.int 3,.int 69,.tup []],.int 21),(.tup [.int 3,.int 70,.tup []],.int 22),(.tup [.int 3,.int 72,.tup []],.int 23),(.tup [.int 2,.int 71,.tup [.int 16,.int 8]],.int 24)],.list [.int 1,.int 1,.int 1,.int 1,.int 1,.int 1,.int 1,.int 1,.int 1,.int 1,.int 1,.int 1,.int 1,.int 1,.int 1,.int 1,.int 1,.int 1,.int 1,.int 1,.int 1,.int 1,.int 1,.int 1,.int 2],.list [.int 0,.int 0,.int 0,.int 0,.int 0,.int 0,.int 0,.int 0,.int 0,.int 0,.int 0,.int 0,.int 0,.int 0,.int 0,.int 0,.int 0,.int 0,.int 0,.int 0,.int 0,.int 0,.int 0,.int 0,.int 0],.list [.none],.list [.none],.list [.none],.dict none [],.list [],.inst 4 [(14,.obj 12),(1,.obj 13),(15,.int 37),(16,.int 400),(17,.obj 14),(18,.int b),(19,.int 21),(20,.int 101),(21,.obj 15),(22,.obj 16),(23,.int 0),(24,.int 7)],.list [.obj 63,.obj 65,.obj 67,.obj 69,.obj 71,.obj 73,.obj 75],.dict (some .int) [(.int 16,.obj 63),(.int 19,.obj 65),(.int 22,.obj 67),(.int 25,.obj 69),(.int 28,.obj 71),(.int 31,.obj 73),(.int 34,.obj 75)],.dict none [],.list [],.list [],.inst 11 [(46,.obj 0),(47,.obj 1),(25,.obj 11),(48,.obj 18),(2,.obj 19),(49,.obj 20),(50,.obj 21),(51,.obj 22),(21,.obj 23),(26,.obj 24),(52,.obj 25),(13,.int 0),(43,.int 0),(53,.obj 26),(54,.obj 27),(27,.obj 28),(55,.obj 29),(56,.obj 30),(57,.obj 31),(44,.obj 32),(58,.none),(59,.none),(60,.int 60),(61,.obj 33),(62,.obj 34),(63,.obj 35),(64,.str []),(65,.obj 36),(66,.obj 37),(67,.obj 38),(68,.obj 39)],.dict none [],.dict none [],.dict none [],.dict (some .int) [(.int 22,.tup [.int 5,.int 22,.tup [.tup [.int 1,.int 0],.tup [.int 4,.int 0]]]),(.int 23,.tup [.int 5,.int 23,.tup [.tup [.int 1,.int 0],.tup [.int 4,.int 0]]])],.dict (some .int) [(.int 21,.int 5)],.dict none [],.list [.obj 53],.dict none [],.list [],.list [],.dict none [],.dict none [],.dict none [],.list [],.list [],.dict none [],.list [],.list [],.inst 5 [(25,.obj 11),(26,.obj 25),(27,.obj 28)],.inst 8 [],.inst 9 [],.inst 10 [],.dict (some .str) [(.str [111],.int 12),(.str [116],.int 13),(.str [98,111,111,108],.int 1),(.str [99,104,97,114],.int 2),(.str [105,49],.int 3),(.str [117,49],.int 4),(.str [105,50],.int 5),(.str [117,50],.int 6),(.str [105,52],.int 7),(.str [117,52],.int 8),(.str [105,56],.int 9),(.str [117,56],.int 10),(.str [110,105,110,116],.int 11),(.str [97],.int 16),(.str [98],.int 17),(.str [99],.int 18),(.str [100],.int 19),(.str [105],.int 20),(.str [101],.int 21),(.str [115],.int 22),(.str [115,50],.int 23)],.dict (some .str) [(.str [98,111,111,108],.int 1),(.str [99,104,97,114],.int 2),(.str [105,49],.int 3),(.str [117,49],.int 4),(.str [105,50],.int 5),(.str [117,50],.int 6),(.str [105,52],.int 7),(.str [117,52],.int 8),(.str [105,56],.int 9),(.str [117,56],.int 10),(.str [110,105,110,116],.int 11)],.dict (some .str) [(.str [98,111,111,108],.int 1),(.str [99,104,97,114],.int 2),(.str [105,49],.int 3),(.str [117,49],.int 4),(.str [105,50],.int 5),(.str [117,50],.int 6),(.str [105,52],.int 7),(.str [117,52],.int 8),(.str [105,56],.int 9),(.str [117,56],.int 10),(.str [110,105,110,116],.int 11)],.dict (some .str) [(.str [98,111,111,108],.int 1),(.str [99,104,97,114],.int 2),(.str [105,49],.int 3),(.str [117,49],.int 4),(.str [105,50],.int 5),(.str [117,50],.int 6),(.str [105,52],.int 7),(.str [117,52],.int 8),(.str [105,56],.int 9),(.str [117,56],.int 10),(.str [110,105,110,116],.int 11)],.dict (some .str) [(.str [98,111,111,108],.int 1),(.str [99,104,97,114],.int 2),(.str [105,49],.int 3),(.str [117,49],.int 4),(.str [105,50],.int 5),(.str [117,50],.int 6),(.str [105,52],.int 7),(.str [117,52],.int 8),(.str [105,56],.int 9),(.str [117,56],.int 10),(.str [110,105,110,116],.int 11)],.dict (some .str) [(.str [98,111,111,108],.int 1),(.str [99,104,97,114],.int 2),(.str [105,49],.int 3),(.str [117,49],.int 4),(.str [105,50],.int 5),(.str [117,50],.int 6),(.str [105,52],.int 7),(.str [117,52],.int 8),(.str [105,56],.int 9),(.str [117,56],.int 10),(.str [110,105,110,116],.int 11)],.dict (some .str) [(.str [98,111,111,108],.int 1),(.str [99,104,97,114],.int 2),(.str [105,49],.int 3),(.str [117,49],.int 4),(.str [105,50],.int 5),(.str [117,50],.int 6),(.str [105,52],.int 7),(.str [117,52],.int 8),(.str [105,56],.int 9),(.str [117,56],.int 10),(.str [110,105,110,116],.int 11)],.dict (some .str) [(.str [98,111,111,108],.int 1),(.str [99,104,97,114],.int 2),(.str [105,49],.int 3),(.str [117,49],.int 4),(.str [105,50],.int 5),(.str [117,50],.int 6),(.str [105,52],.int 7),(.str [117,52],.int 8),(.str [105,56],.int 9),(.str [117,56],.int 10),(.str [110,105,110,116],.int 11)],.dict (some .str) [(.str [98,111,111,108],.int 1),(.str [99,104,97,114],.int 2),(.str [105,49],.int 3),(.str [117,49],.int 4),(.str [105,50],.int 5),(.str [117,50],.int 6),(.str [105,52],.int 7),(.str [117,52],.int 8),(.str [105,56],.int 9),(.str [117,56],.int 10),(.str [110,105,110,116],.int 11)],.dict (some .str) [(.str [98,111,111,108],.int 1),(.str [99,104,97,114],.int 2),(.str [105,49],.int 3),(.str [117,49],.int 4),(.str [105,50],.int 5),(.str [117,50],.int 6),(.str [105,52],.int 7),(.str [117,52],.int 8),(.str [105,56],.int 9),(.str [117,56],.int 10),(.str [110,105,110,116],.int 11)],.dict (some .str) [(.str [98,111,111,108],.int 1),(.str [99,104,97,114],.int 2),(.str [105,49],.int 3),(.str [117,49],.int 4),(.str [105,50],.int 5),(.str [117,50],.int 6),(.str [105,52],.int 7),(.str [117,52],.int 8),(.str [105,56],.int 9),(.str [117,56],.int 10),(.str [110,105,110,116],.int 11)],.dict (some .str) [(.str [98,111,111,108],.int 1),(.str [99,104,97,114],.int 2),(.str [105,49],.int 3),(.str [117,49],.int 4),(.str [105,50],.int 5),(.str [117,50],.int 6),(.str [105,52],.int 7),(.str [117,52],.int 8),(.str [105,56],.int 9),(.str [117,56],.int 10),(.str [110,105,110,116],.int 11)],.list [],.inst 6 [(31,.int 1),(32,.tup [.int 24,.int 1,.tup [.int 17,.int 4]]),(33,.none),(34,.int 0),(28,.obj 52),(30,.obj 54),(35,.obj 55),(36,.obj 56),(37,.obj 57),(38,.obj 58),(29,.obj 59),(39,.int 0),(40,.int 1),(41,.int 0),(42,.int (-1))],.list [],.list [],.list [],.list [],.list [],.list [],.list [.int 16,.int 19,.int 22,.int 25,.int 28,.int 31,.int 34],.dict (some .int) [(.int 16,.str [97]),(.int 19,.str [98]),(.int 22,.str [99]),(.int 25,.str [100]),(.int 28,.str [116]),(.int 31,.str [105,52]),(.int 34,.str [101])],.list [.tup [.int 1,.int 5]],.inst 3 [(8,.int 16),(9,.int 16),(10,.obj 62),(11,.int 0),(12,.int 3),(13,.int 1)],.list [.tup [.int 1,.int 5]],.inst 3 [(8,.int 19),(9,.int 17),(10,.obj 64),(11,.int 0),(12,.int 3),(13,.int 2)],.list [.tup [.int 1,.int 5]],.inst 3 [(8,.int 22),(9,.int 18),(10,.obj 66),(11,.int 0),(12,.int 3),(13,.int 3)],.list [.tup [.int 1,.int 5]],.inst 3 [(8,.int 25),(9,.int 19),(10,.obj 68),(11,.int 0),(12,.int 3),(13,.int 4)],.list [.tup [.int 1,.int 5]],.inst 3 [(8,.int 28),(9,.int 13),(10,.obj 70),(11,.int 0),(12,.int 3),(13,.int 5)],.list [.tup [.int 1,.int 5]],.inst 3 [(8,.int 31),(9,.int 7),(10,.obj 72),(11,.int 0),(12,.int 3),(13,.int 6)],.list [.tup [.int 1,.int 5]],.inst 3 [(8,.int 34),(9,.int 21),(10,.obj 74),(11,.int 0),(12,.int 3),(13,.int 7)],.dict none [],.list [],.dict none [],.dict (some .str) [(.str [109],.obj 17),(.str [102],.obj 53),(.str [107,105,110,100,115],.obj 40),(.str [111,98,106,101,99,116,115],.obj 60),(.str [101,120,97,99,116],.obj 61),(.str [97,114,114,97,121,115],.obj 76),(.str [111,114,100,101,114],.obj 77),(.str [99,97,114,100,115],.obj 78),(.str [98,105,116,115],.int b),(.str [116,111,112],.int 37)]]
theorem zbz (scr:List Int) (h:Int):Kq (JK scr) Jz 39 146 [.int h] []=some (.obj 79,W0 (h.fmod 4)):=by kernel_rfl
noncomputable def zak (H:AH):List (Nat×AO)→Prop
 | []=>True
 | (r,o)::l=>H[r]?=some o∧zak H l
theorem zak.look {H:AH}:∀ {l:List (Nat×AO)},zak H l→∀ r o,zc r l=some o→H[r]?=some o
 | [],_,_,_,e=>by cases e
 | (i,v)::l,h,r,o,e=>by
  by_cases q:i=r
  ·subst q; rw [Jh] at e; cases e; exact h.1
  ·rw [yC q] at e; exact zak.look h.2 r o e
noncomputable def S0 (b:Int):St :=
 { rows:=yL.map fun t=>.tup (ya yL t),index:=yL.map fun t=>(.tup (ya yL t),.int (kx yL t)),depths:=yL.map fun t=>.int (dep t),opens:=yL.map fun t=>.int (opn t),top:=37,fresh:=21,made:=7,things:=th0,at_:=at0,cards:=[],state:=0,told:=[],thrown:=[],kin:=[],pre:=-1,stk:=55,kinds:=K0.map fun t=>(.str (nm t),.int (kx yL t)),arrays:=[],order:=[],wcards:=[],wtop:=37,bits:=b,dyn:=[] }
theorem zq7 (b:Int):Rep (S0 b) (W0 b):=by
 refine ⟨Nat.le_of_ble_eq_true (by kernel_rfl),fun r o h=>?_⟩
 unfold Rd at h
 refine zak.look ?_ r o h
 unfold own
 repeat' first | exact trivial | refine ⟨by kernel_rfl,?_⟩
theorem wf0:Wf yL:=⟨by decide,by decide,⟨[],rfl⟩,by
 intro t h
 have:∀ t∈yL,(match t with | .arr _=>false | _=>true)=true:=by decide
 have:=this _ h
 cases this⟩
theorem zqB (b:Int) (hb:0≤b∧b≤3):Inv yL K0 [] 0 (S0 b):=by
 refine ⟨⟨⟨⟨wf0,rfl,rfl,rfl,rfl⟩,⟨rfl,rfl,rfl,List.nodup_nil,?_,Nat.zero_le _⟩,?_,?_,rfl,rfl,rfl⟩,⟨rfl,?_,?_,fun _ h=>h,by decide⟩,?_,Nat.le_refl _⟩,?_,?_,rfl,rfl,rfl,⟨[],List.nodup_nil,Nat.le_refl _,rfl⟩,rfl,hb,rfl,Nat.le_refl _⟩
 ·intro a h; cases h
 ·intro a h; cases h
 ·intro a h; cases h
 ·decide
 ·intro t h; exact List.mem_append_left _ h
 ·intro k v h; cases h
 ·intro a h; cases h
 ·intro a h; cases h
section
variable {scr:List Int} {d:Nat} {σ:St} {Q:AV→St→Prop} {k s:Int} {rest row:List AV} {n x y:List Nat} {R K:List Ty} {as:List Arr} {wh ix th:AV} {o:Out} {N:Nat}
theorem zp0 {r q:Nat} {kd:Option KK} {es:List (AV×AV)} {Q:Bool→St→Prop} (hr:Rd σ r (.dict kd es)) (hq:Rd σ q (.dict kd es)) (hk:kd≠some .str∧kd≠some .tup) (hd:(es.all fun e=>zg 0 e.2)=true) (hn:∀ e∈es,ze e.1 es=some e.2) (h:Q true σ):WQ .Eq (.obj r) (.obj q) σ Q:=by
 refine .mk fun H R=>⟨true,JU (R.2 _ _ hr) (zdm (R.2 _ _ hq) ((if_pos ⟨hk.1,hk.2,hk.1,hk.2,hd,hd⟩).trans ?_)),σ,R,h⟩
 rw [decide_eq_true rfl,Bool.true_and]
 congr 1
 rw [List.all_eq_true]
 exact fun e he=>decide_eq_true (hn e he)
theorem zbx {ks:List Int} (h:ks.Nodup):∀ e∈(ks.map fun k=>((.int k,.int 1):AV×AV)),ze e.1 (ks.map fun k=>(.int k,.int 1))=some e.2:=by
 intro e he
 obtain ⟨k,hk,rfl⟩:=List.mem_map.mp he
 exact Jk (f:=fun k=>AV.int k) (g:=fun _=>AV.int 1) hk rfl fun y _ e=>by cases e; rfl
local macro_rules | `(tactic| ac_rfl)=>`(tactic| first | assumption | exact Kh | (apply yr; (exact rfl); ac_rfl) | exact rfl)
local macro_rules | `(tactic| simp_arith)=>`(tactic| first | refine Sk.mk ?_ | (apply Ov.mk; ac_rfl))
inductive zq4 (as:List Arr) (N:Nat) (vs:List AV) (ρ:Loc) (σ1:St):Prop
 | mk (R' K':List Ty) (l:List Arr) (iv:Inv R' K' as N σ1) (h0:al 0 ρ=some (.obj 79)) (h1:al 1 ρ=some (.obj 11)) (hv:vs=l.map fun a:Arr=>.int a.addr) (hl:∀ a∈l,a∈as)
theorem zdu (iv:Inv R K as N σ) (q:∀ σ',Q (.bool true) σ'):WC (cf scr (d + 11)) 147 [.obj 79] σ Q:=by
 refine za rfl rfl ?_
 symm
 refine YA (noR rfl) ?_
 symm
 refine zgu (fun vs ρ σ1=>zq4 as N vs ρ σ1) ?_ ?_ ⟨R,K,as,iv,by ac_rfl,by ac_rfl,iv.bd.env.af.order,fun _ h=>h⟩
 ·rintro v vs ρ σ1 ⟨R',K',l,iv1,h0,h1,hv,hl⟩
  cases l with
  | nil=>cases hv
  | cons a l =>
   injection hv with hv1 hv2
   subst hv1
   have ha:=hl a (by simp)
   have e:=iv1.bd.env
   have m:=e.af.hit ha
   have mt:=e.af.at ha
   obtain ⟨D1,D2,D3,D4⟩:=e.dyn _ ha
   obtain ⟨ae,ar,l5⟩:=e.el _ ha
   have hm:Ty.arr a.e∈Nmd:=List.mem_append_right _ (List.mem_map_of_mem ae)
   have hd3:dep (.arr a.e)≤3:=by have:=(zL _ ae).2; show dep a.e + 1≤3; lia
   have nl:(nm a.e).length < 8:=YH _ (zL _ ae).1
   symm
   refine zk Zo (zt rfl) ?_
   rw [mt]
   symm
   refine zn zv ((zx rfl).trans (congrArg some m)) ?_
   symm
   refine ze4 (by show (nm a.e).length + 2≤1000; lia) ?_
   symm
   refine je (t:=.arr a.e) hm hd3 e.kt iv1.bd.kn fun R2 K2 x1 _ _ kt kn=>?_
   have iv2:=iv1.growN x1 kt kn
   have ek:kx R' (.arr a.e)=kx R2 (.arr a.e):=(x1.kx ar).symm
   dsimp only [St.setN,St.setK] at iv2 ⊢
   symm
   refine zos (zu D2) (zu D3) ?_ ?_
   ·have:(a.vs.map Val.av).all (zg 6)=true:=by
     rw [List.all_map]; exact List.all_eq_true.mpr fun v _=>zaz v
    rw [this]; rfl
   rw [AV.eqbs_refl]
   symm
   have ho:σ.order=σ1.order:=iv.bd.env.af.order.trans e.af.order.symm
   exact ⟨by show Rd _ 77 (.list σ.order); rw [ho]; exact zcI,R2,K2,l,iv2,by ac_rfl,by ac_rfl,hv2,fun b hb=>hl b (by simp [hb])⟩
 ·rintro ρ σ1 ⟨R',K',l,iv1,h0,h1,hv,hl⟩
  have e:=iv1.bd.env
  have l1:σ1.order.length=as.length:=by rw [e.af.order,List.length_map]
  have l2:σ1.things.length=7 + as.length:=by rw [iv1.things,List.length_append,List.length_map]; rfl
  have l3:=e.af.len
  have b1:σ1.order.length≤big:=by rw [l1]; exact Nat.le_trans l3 (by decide)
  have b2:σ1.things.length≤big:=by rw [l2]; exact Nat.le_trans (Nat.add_le_add_left l3 7) (by decide)
  obtain ⟨ks,k1,k2,k3⟩:=iv1.cards
  have c1:Rd σ1 78 (.dict (dk .int σ1.cards) σ1.cards):=by have:=zjs (σ:=σ1); rw [iv1.wc] at this; exact this
  symm
  refine zp0 zjD c1 ⟨by cases σ1.cards <;> (intro h; cases h),by cases σ1.cards <;> (intro h; cases h)⟩ (by rw [k3,List.all_map]; exact List.all_eq_true.mpr fun _ _=>rfl) (by rw [k3]; exact zbx k1) ?_
  symm
  have hq:=q σ1
  rw [← decide_eq_true (iv1.wtop.symm:σ1.top=σ1.wtop)] at hq
  exact hq
end
section
variable {scr:List Int} {d:Nat} {σ:St} {Q:AV→St→Prop} {k s:Int} {rest row:List AV} {n x y:List Nat} {R K:List Ty} {as:List Arr} {wh ix th:AV} {o:Out} {N:Nat}
theorem Inv.dyn {D:List (Nat×AO)} (iv:Inv R K as N σ) (h:Sub σ.dyn D):Inv R K as N { σ with dyn:=D }:=by
 have sub:∀ {p o},Dl σ.dyn p o→Dl D p o:=fun q=>.mk q.ge (h _ _ q.at)
 have b:=iv.bd
 exact ⟨⟨b.env.move rfl rfl rfl rfl rfl rfl rfl rfl rfl rfl fun a ha z1c=>by obtain ⟨D1,D2,D3,D4⟩:=z1c; exact ⟨sub D1,sub D2,sub D3,sub D4⟩,⟨b.kn.kinds,b.kn.sub,b.kn.named,b.kn.base,b.kn.nodup⟩,b.ki,b.kl⟩,iv.ids,iv.vals,iv.things,iv.ch,iv.wtop,iv.cards,iv.wc,iv.bits,iv.pre,iv.len⟩
local macro_rules | `(tactic| ac_rfl)=>`(tactic| first | assumption | exact Kh | (apply yr; (exact rfl); ac_rfl) | exact rfl)
local macro_rules | `(tactic| simp_arith)=>`(tactic| first | refine Sk.mk ?_ | (apply Ov.mk; ac_rfl))
theorem zqI {xs:List Int} (h:xs.length=4):∃ a b c e,xs=[a,b,c,e]:=by
 obtain ⟨a,xs,rfl⟩:=List.exists_cons_of_length_pos (l:=xs) (by rw [h]; decide)
 obtain ⟨b,xs,rfl⟩:=List.exists_cons_of_length_pos (l:=xs) (by rw [Nat.succ.inj h]; decide)
 obtain ⟨c,xs,rfl⟩:=List.exists_cons_of_length_pos (l:=xs) (by rw [Nat.succ.inj (Nat.succ.inj h)]; decide)
 obtain ⟨e,xs,rfl⟩:=List.exists_cons_of_length_pos (l:=xs) (by rw [Nat.succ.inj (Nat.succ.inj (Nat.succ.inj h))]; decide)
 exact ⟨a,b,c,e,by rw [List.length_eq_zero_iff.mp (Nat.succ.inj (Nat.succ.inj (Nat.succ.inj (Nat.succ.inj h))))]⟩
inductive zoX (σ:St) (r:Nat) (p:Int) (vs:List AV) (ρ:Loc) (σ1:St):Prop
 | mk (xs:List Int) (hx:xs.length=4) (hs:σ1={ σ with dyn:=zf r (.list (xs.map .int)) σ.dyn }) (h0:al 0 ρ=some (.cst 3)) (h2:al 2 ρ=some (.obj 79)) (h5:al 5 ρ=some (.int p)) (h6:al 6 ρ=some (.obj r)) (hv:∀ v∈vs,∃ j:Int,v=.int j∧0≤j∧j≤3)
theorem zg2 {ρ:Loc} {r:Nat} {p:Int} {Q:Fl→Loc→St→Prop} (hr:80≤r) (hn:zc r σ.dyn=none) (hp:0≤p∧p≤20) (hs:scr.length≤63)
  (h0:al 0 ρ=some (.cst 3)) (h2:al 2 ρ=some (.obj 79)) (h5:al 5 ρ=some (.int p)) (h6:al 6 ρ=some (.obj r))
  (q:∀ ρ' a b c e,al 0 ρ'=some (.cst 3)→al 2 ρ'=some (.obj 79)→al 6 ρ'=some (.obj r)→Q .next ρ' { σ with dyn:=zf r (.list [.int a,.int b,.int c,.int e]) σ.dyn }) :
  WF scr (cf scr d) 7 [.ite (.cmp (.bin .Add (.bin .Add (.bin .Mult (.int 4) (.loc 5)) (.loc 7)) (.int 1)) [.Lt] [(.len (.loc 0))]) [.set (.idx (.loc 6) (.loc 7)) (.idx (.loc 0) (.bin .Add (.bin .Add (.bin .Mult (.int 4) (.loc 5)) (.loc 7)) (.int 1)))] []] none (yo (4:Int).toNat) ρ
   { σ with dyn:=zf r (.list [.int 0,.int 0,.int 0,.int 0]) σ.dyn } Q:=by
 have hb:scr.length≤big:=Nat.le_trans hs (by decide)
 rw [show yo (4:Int).toNat=[.int 0,.int 1,.int 2,.int 3] from rfl]
 try refine Sk.mk ?_
 refine zgu (fun vs ρ σ1=>zoX σ r p vs ρ σ1) ?_ ?_ ⟨[0,0,0,0],rfl,rfl,h0,h2,h5,h6,?_⟩
 ·intro v vs ρ σ1 z
  obtain ⟨xs,hx,rfl,h0,h2,h5,h6,hv⟩:=z
  obtain ⟨j,rfl,j0,j3⟩:=hv v (.head _)
  have fin:∀ (ρ':Loc) (xs:List Int),xs.length=4→al 0 ρ'=some (.cst 3)→al 2 ρ'=some (.obj 79)→al 5 ρ'=some (.int p)→al 6 ρ'=some (.obj r)→zoX σ r p vs ρ' { σ with dyn:=zf r (.list (xs.map .int)) σ.dyn } :=
   fun ρ' xs hx a b c d=>⟨xs,hx,rfl,a,b,c,d,fun w hw=>hv w (.tail _ hw)⟩
  have hl:(xs.map AV.int).length=4:=by rw [List.length_map,hx]
  by_cases c:4 * p + j + 1 < scr.length
  ·have hi:scr[(4 * p + j + 1).toNat]?=some (scr[(4 * p + j + 1).toNat]'(by lia)):=List.getElem?_eq_getElem (by lia)
   symm
   refine zj6 hb ?_
   symm
   refine zkF (by lia) hi ?_
   symm
   refine YC (yy hr) ⟨j0,by rw [hl]; show j < 4; lia,by lia⟩ ?_
   dsimp only
   symm
   refine ⟨trivial,?_⟩
   have:=fin (put 7 (.int j) ρ) (xs.set j.toNat (scr[(4 * p + j + 1).toNat]'(by lia))) (by rw [List.length_set,hx]) (by ac_rfl) (by ac_rfl) (by ac_rfl) (by ac_rfl)
   rw [List.map_set] at this
   rw [zX]
   exact this
  ·symm
   refine zj6 hb ?_
   symm
   exact ⟨trivial,fin _ xs hx (by ac_rfl) (by ac_rfl) (by ac_rfl) (by ac_rfl)⟩
 ·intro ρ' σ1 z
  obtain ⟨xs,hx,rfl,h0,h2,h5,h6,_⟩:=z
  obtain ⟨a,b,c,e,rfl⟩:=zqI hx
  exact q ρ' a b c e h0 h2 h6
 ·intro v hv
  simp only [List.mem_cons,List.not_mem_nil,or_false] at hv
  rcases hv with rfl | rfl | rfl | rfl
  ·exact ⟨0,rfl,by decide,by decide⟩
  ·exact ⟨1,rfl,by decide,by decide⟩
  ·exact ⟨2,rfl,by decide,by decide⟩
  ·exact ⟨3,rfl,by decide,by decide⟩
end
section
variable {scr:List Int} {d:Nat} {σ:St} {Q:AV→St→Prop} {k s:Int} {rest row:List AV} {n x y:List Nat} {R K:List Ty} {as:List Arr} {wh ix th:AV} {o:Out} {N:Nat}
theorem zdC {m:Nat}:∀ v∈yo m,∃ p:Int,v=.int p∧0≤p∧p < m:=by
 intro v hv
 obtain ⟨i,hi,rfl⟩:=List.mem_map.mp hv
 rw [List.mem_range] at hi
 exact ⟨i,rfl,by lia,by lia⟩
theorem zdT {m:Nat}:(yo m).length=m:=by unfold yo; rw [List.length_map,List.length_range]
local macro_rules | `(tactic| ac_rfl)=>`(tactic| first | assumption | exact Kh | (apply yr; (exact rfl); ac_rfl) | exact rfl)
local macro_rules | `(tactic| simp_arith)=>`(tactic| first | refine Sk.mk ?_ | (apply Ov.mk; ac_rfl))
theorem zge {ρ:Loc} {h:Int} (hs:scr.length≤63) (iv0:Inv yL K0 [] 0 σ) (h0:al 0 ρ=some (.cst 3)) (h1:al 1 ρ=some (.int h)) (h2:al 2 ρ=some (.obj 79)) :
  WS scr (cf scr (d + 20)) (zcO.drop 3) ρ σ (fun fl _ _=>fl=.ret (.bool true)):=by
 have hb:scr.length≤big:=Nat.le_trans hs (by decide)
 refine VI _ ?_
 symm
 refine yR (noR rfl) ?_
 symm
 refine Jy (t:=.base 17) (.inl rfl) (by decide) iv0 (by decide) (by decide) fun R1 K1 as1 σ1 i1 l1=>?_
 symm
 refine Jy (t:=.base 12) (.inl rfl) (by decide) i1 (by decide) (by decide) fun R2 K2 as2 σ2 i2 l2=>?_
 symm
 refine Jy (t:=.base 4) (.inl rfl) (by decide) i2 (by decide) (by decide) fun R3 K3 as3 σ3 i3 l3=>?_
 symm
 refine Jy (t:=.base 22) (.inl rfl) (by decide) i3 (by decide) (by decide) fun R4 K4 as4 σ4 i4 l4=>?_
 clear i1 i2 i3 iv0
 have l4':0 < as4.length:=by rw [l4]; exact Nat.succ_pos _
 clear l1 l2 l3
 symm
 refine zgY i4 (by decide) l4' fun R5 K5 as5 σ5 i5 l5=>?_
 have l5':0 < as5.length:=Nat.lt_of_lt_of_le l4' l5
 clear i4 l4 l4' l5
 symm
 refine zj6 hb ?_
 symm
 refine zcN ?_
 symm
 have key:∀ a:Int,1≤(if 1 < (if a < 9 then a else 9) then (if a < 9 then a else 9) else (1:Int))∧(if 1 < (if a < 9 then a else 9) then (if a < 9 then a else 9) else (1:Int))≤9:=by intro a; split <;> split <;> lia
 have key:=key (((scr.length:Int) + 2).fdiv 4)
 generalize (if 1 < (if ((scr.length:Int) + 2).fdiv 4 < 9 then ((scr.length:Int) + 2).fdiv 4 else 9) then (if ((scr.length:Int) + 2).fdiv 4 < 9 then ((scr.length:Int) + 2).fdiv 4 else 9) else (1:Int))=m at key ⊢
 refine ⟨by lia,?_⟩
 refine zgu (fun vs ρ σ1=>∃ R K as N,Inv R K as N σ1∧N + vs.length≤14∧0 < as.length∧al 0 ρ=some (.cst 3)∧al 2 ρ=some (.obj 79)∧∀ v∈vs,∃ p:Int,v=.int p∧0≤p∧p≤20) ?_ ?_ ⟨R5,K5,as5,_,i5,by rw [zdT]; lia,l5',by ac_rfl,by ac_rfl,fun v hv=>by
  obtain ⟨p,e,p0,p1⟩:=zdC v hv
  exact ⟨p,e,p0,by lia⟩⟩
 ·clear i5 l5' h0 h1 h2
  rintro v vs ρ σ1 ⟨R,K,as,N,iv,hN,ha,h0,h2,hv⟩
  obtain ⟨p,rfl,p0,p1⟩:=hv v (by simp)
  rw [List.length_cons] at hN
  symm
  rename_i r hr hn
  refine zcN ?_
  simp_arith
  refine ⟨by decide,?_⟩
  refine zg2 (p:=p) hr hn ⟨p0,p1⟩ hs (by ac_rfl) (by ac_rfl) (by ac_rfl) (by ac_rfl) ?_
  intro ρ' a b c e g0 g2 g6
  symm
  refine zgY (iv.dyn (zl hn yw)) (by lia) ha fun R' K' as' σ' i' l'=>?_
  symm
  exact ⟨trivial,R',K',as',N + 1,i',by lia,Nat.lt_of_lt_of_le ha l',g0,g2,fun v h=>hv v (by simp [h])⟩
 ·rintro ρ' σ1 ⟨R,K,as,N,iv,hN,ha,h0,h2,hv⟩
  symm
  refine zdu iv fun σ'=>?_
  rfl
end
theorem zeO (scr:List Int) (hs:scr.length≤63):∃ H',Kq (JK scr) Jz 40 zfS [.cst 3] []=some (.bool true,H'):=by
 have hb:scr.length≤big:=Nat.le_trans hs (by decide)
 have world:∀ h:Int,Wc (cf scr 39) 146 [.int h] [] fun v H=>v=.obj 79∧H=W0 (h.fmod 4):=fun h=>⟨_,_,by unfold cf; exact zbz scr h,rfl,rfl⟩
 have tail:∀ (ρ:Loc) (h:Int),zc 0 ρ=some (.cst 3)→zc 1 ρ=some (.int h)→Ws scr (cf scr 39) (.set (.name 2) (.call 146 [(.loc 1)])::zcO.drop 3) ρ [] fun fl _ _=>fl=.ret (.bool true):=by
  intro ρ h h0 h1
  refine jd (zez (zfG (zcV h1 (zjO ?_))))
  refine (world h).imp fun v z1b=>?_
  obtain ⟨H,e,ev,eH⟩:=z1b
  refine ⟨H,e,?_⟩
  subst ev eH
  have hb4:0≤h.fmod 4∧h.fmod 4≤3:=by have:=zS h (m:=4) (by decide); have e:h.fmod ((4:Nat):Int)=h.fmod 4:=rfl; rw [e] at this; lia
  have:=(zge (d:=19) (σ:=S0 (h.fmod 4)) (ρ:=zf 2 (.obj 79) ρ) (h:=h) hs (zqB _ hb4) (by rw [V1,zr,if_neg (by decide)]; exact h0) (by rw [V1,zr,if_neg (by decide)]; exact h1) (by rw [V1,zr,if_pos rfl])).go (W0 (h.fmod 4)) (zq7 _)
  exact this.mono fun fl _ _ z2d=>by obtain ⟨_,_,e⟩:=z2d; exact e
 have all:Wc (cf scr (39 + 1)) zfS [.cst 3] [] fun v _=>v=.bool true:=by
  refine zhe (b:=zcO) rfl rfl ?_
  have h0:∀ v:AV,zc 0 (zf 1 v (yt 0 [.cst 3]))=some (.cst 3):=fun _=>rfl
  have h1:∀ v:AV,zc 1 (zf 1 v (yt 0 [.cst 3]))=some v:=fun _=>rfl
  refine jd (zcY (zjZ (zjR (zgM hb (zcV (h0 _) ⟨rfl,zcY (zpp ?_)⟩)))))
  cases scr with
  | nil=>exact zko (by decide) ((tail _ 0 (h0 _) (h1 _)).mono fun fl _ _ e=>by rw [e]; rfl)
  | cons a l =>
   refine zmp (by show (0:Int) < ((l.length + 1:Nat):Int); lia) ?_
   refine jd (zjz (zcV (h0 _) (zcY (zjN (i:=a) (by decide) rfl ?_))))
   refine (tail _ a ?_ ?_).mono fun fl _ _ e=>by rw [e]; rfl
   ·rfl
   ·rfl
 obtain ⟨v,H',e,rfl⟩:=all
 unfold cf at e
 exact ⟨H',e⟩
end Mine.Pl
section
namespace Mine
open PySem PySem.W PyProof.Rows PySem.Calls
open Sem (wp)
inductive LsV (P:Params) (h:Heap) (v:Value) (xs:List WData):Prop
 | mk (a:Addr) (us:List Value) (e:v=.ref a) (ha:h.get? a=some { cls:=.type "list",data:=.seq us.toArray }) (w:WellAll P h us xs)
noncomputable def wlV (P:Params) (h:Heap) (v:Value):WData→Prop
 | .list xs=>LsV P h v xs
 | .int i=>∃ t,v=.int i t
 | _=>True
theorem zjM {P:Params} {h:Heap} {v:Value} {d:WData} (x:Well P h v d):wlV P h v d:=by
 cases x <;> first | exact ⟨_,rfl⟩ | exact trivial | exact ⟨_,_,rfl,‹_›,‹_›⟩
inductive zcZ (P:Params) (h:Heap) (d:WData) (ds:List WData):List Value→Prop
 | mk (v:Value) (vs:List Value) (a:Well P h v d) (b:WellAll P h vs ds):zcZ P h d ds (v::vs)
noncomputable def waV (P:Params) (h:Heap) (vs:List Value):List WData→Prop
 | []=>vs=[]
 | d::ds=>zcZ P h d ds vs
theorem zcy {P:Params} {h:Heap} {vs:List Value} {ds:List WData} (x:WellAll P h vs ds):waV P h vs ds:=by
 cases x with
 | nil=>rfl
 | cons a b=>exact ⟨_,_,a,b⟩
theorem zcd {d:WData} (h:WShape.has [] d (.list .int)=true):∃ xs,d=.list xs∧WShape.hasItems [] xs .int=true:=by
 cases d with
 | list xs=>exact ⟨xs,rfl,(Bool.or_false _).symm.trans h⟩
 | _=>exact no h
theorem zdy {d:WData} (h:WShape.has [] d .int=true):∃ i,d=.int i:=by
 cases d with
 | int i=>exact ⟨i,rfl⟩
 | _=>exact no h
theorem zeq {xs:List WData} (h:WShape.hasItems [] xs .int=true):∃ is:List Int,xs=is.map .int:=by
 induction xs with
 | nil=>exact ⟨[],rfl⟩
 | cons x xs ih =>
  have h:=tt (h:(WShape.has [] x .int&&WShape.hasItems [] xs .int)=true)
  obtain ⟨i,rfl⟩:=zdy h.1
  obtain ⟨is,rfl⟩:=ih h.2
  exact ⟨i::is,rfl⟩
theorem zeg {c:Cx} {P:Params} {h:Heap} {is:List Int}:∀ {us:List Value},WellAll P h us (is.map .int)→VRs c h [] (is.map AV.int) us:=by
 induction is with
 | nil=>exact fun {us} x=>(zcy x:us=[]) ▸ .nil
 | cons i is ih =>
  intro us x
  obtain ⟨v,vs,a,b⟩:=(zcy x:zcZ P h (.int i) (is.map .int) us)
  obtain ⟨t,rfl⟩:=(zjM a:∃ t,v=.int i t)
  exact .cons (.int _ _) (ih b)
theorem zgg {args:List WData} (h:(Hd.LW.row.toRowW.claim.pre args)=true):∃ is:List Int,args=[.list (is.map .int)]∧is.length≤63:=by
 have h:(WShape.hasAll [] args [.list .int]&&Hd.LW.pre.holds [] { args:=args })=true:=h
 rw [Bool.and_eq_true] at h
 obtain ⟨h1,h2⟩:=h
 cases args with
 | nil=>simp [WShape.hasAll] at h1
 | cons d r =>
  rw [WShape.hasAll,Bool.and_eq_true] at h1
  cases r with
  | cons e r=>simp [WShape.hasAll] at h1
  | nil =>
   obtain ⟨xs,rfl,hx⟩:=zcd h1.1
   obtain ⟨is,rfl⟩:=zeq hx
   refine ⟨is,rfl,?_⟩
   have h2:WTm.holds [] (.and (.not (.lt (.lit (.int 63)) (.len (.arg 0)))) (.lit (.bool true))) { args:=[.list (is.map .int)] }=true:=h2
   rw [WTm.holds] at h2
   by_cases q:63 < is.length
   ·rw [show WTm.value [] ((((WTm.lit (WData.int 63)).lt (WTm.arg 0).len).not.and (WTm.lit (WData.bool true)))) { args:=[.list (is.map .int)] }=some (.bool false) from ?_] at h2
    ·cases h2
    ·rw [WTm.value,show WTm.value [] ((WTm.lit (WData.int 63)).lt (WTm.arg 0).len).not { args:=[.list (is.map .int)] }=some (.bool false) from congrArg (fun b=>some (WData.bool !b)) (decide_eq_true (by rw [List.length_map]; exact Int.ofNat_lt.2 q))]
   ·exact Nat.le_of_not_lt q
theorem zgO {f n:Nat} {body:List S} (e:Jz f=some (n,body)):f < 149:=zbs fnL f e
theorem ret_ll {N:Nm} {ll ll':Ve} {lv:List Str} {kd:Kd} {x:X}:∀ {Sb:List Stmt},Kw N ll lv kd [.ret x] Sb=true→Kw N ll' lv kd [.ret x] Sb=true
 | [],h=>by cases h
 | st::Sb,h=>by
  refine Bool.and_eq_true _ _ ▸ (?_:okS N ll' lv kd (.ret x) st=true∧Kw N ll' lv kd [] Sb=true)
  have h:=Bool.and_eq_true _ _ ▸ (h:(okS N ll lv kd (.ret x) st&&Kw N ll lv kd [] Sb)=true)
  exact ⟨h.1,h.2⟩
theorem jQ.ret_ll {c:Cx} {N:Nm} {ll ll':Ve} {f n:Nat} {x:X} (h:jQ c N ll f n [.ret x]):jQ c N ll' f n [.ret x]:=by
 cases h with
 | mk o fd Sb lv h1 h2 h3 h4 h5 h6 h7 h8 h9 h10 h11 h12 h13 h14 h15 h16=>exact .mk o fd Sb lv h1 h2 h3 h4 h5 h6 h7 h8 h9 h10 h11 h12 h13 h14 h15 (Mine.ret_ll h16)
end Mine
end
section
namespace Mine
open PySem PySem.W PyProof.Rows PySem.Calls
open Sem (wp)
noncomputable def zod:List (AV×AV):=[(.str [98,111,111,108],.int 1),(.str [99,104,97,114],.int 2),(.str [105,49],.int 3),(.str [117,49],.int 4),(.str [105,50],.int 5),(.str [117,50],.int 6),(.str [105,52],.int 7),(.str [117,52],.int 8),(.str [105,56],.int 9),(.str [117,56],.int 10),(.str [110,105,110,116],.int 11)]
theorem zdt:RC 41 callerA:=⟨rfl,by decide,by decide⟩
theorem zpS:WalkO Hd.qV Hd.loV (fun _ _=>True) Hd.YPV Hd.LW.row.toRowW Hd.dkV.1 Hd.dkV.2 fun f vs=>PySem.call f vs:=by
 intro w s₀ s₁ mg mb G y fa o pm cd doc dV kV hfa hdat hcr hdf hmg hgens args vals as hpre hlay hrd hwell hsys
 obtain ⟨is,rfl,hlen⟩:=zgg hpre
 obtain ⟨v,vs',hw,hr⟩:=(zcy hwell:zcZ _ _ (.list (is.map .int)) [] vals)
 obtain rfl:=(zcy hr:vs'=[])
 obtain ⟨a,us,rfl,ha,hw2⟩:=(zjM hw:LsV _ _ v (is.map .int))
 ··
   have B:=znW y a G.T.g G.T.b G.T.builtins G.T.nolimit (scr:=is) ⟨us,⟨_,ha⟩,zeg hw2⟩
   obtain ⟨H',ev⟩:=Pl.zeO is hlen
   have R:Rel (yx w s₁.heap a) [] [] s₁.heap:=⟨rfl,fun r p o e=>by simp at e,fun b o e=>e,fun b hb=>by simp [yp] at hb,by simp [yp]⟩
   have fns:∀ f n body,Jz f=some (n,body)→jQ (yx w s₁.heap a) NM LLK f n body:=fun f n body hf=>znv y a hf (zba w.params f (zgO hf))
   have lits:∀ (d f:Nat) ks,LLK f=some ks→xd (yx w s₁.heap a) f ks (d + 1):=by
    intro d f ks e
    refine og (show (if Nat.beq f 112=true then some _ else none)=some ks from e) fun hf e=>?_
    rw [Nat.eq_of_beq_eq_true hf,← Option.some.inj e]
    exact zkg B (es:=zod) (jQ.ret_ll (fns 112 0 _ rfl)) rfl (fun H=>⟨_,rfl⟩) d
   obtain ⟨_,cs⟩:=zaX B lits fns 40 zfS [.cst 3] [] (.bool true) H' ev
   have fa_eq:fa=(yx w s₁.heap a).fn zfS:=by
    obtain ⟨mg',n',_,h2,_⟩:=B.glob
    have:=h2 zfS _ rfl
    rw [Heap.Ns.agree n' G.T.g] at this
    have e:mg Hd.dkV.1.name=some (.ref fa):=hmg
    rw [show Hd.dkV.1.name=Str.ofString "law" from by kernel_rfl] at e
    exact Value.ref.inj (Option.some.inj (e.symm.trans this))
   subst fa_eq
   refine wpAny_mono (Yx (cs callerA s₁ [] [.ref a] zdt R (.cons (.cst 3) .nil))) (fun u s' ⟨β',x,r⟩=>?_) fun _ _ e=>e.elim
   cases r
   obtain ⟨h',t,rfl⟩:=x.same
   exact GoodW.toG ⟨.inl ⟨.bool true,.bool true,[],rfl,fun _=>rfl,.bool true,by kernel_rfl,fun _=>⟨List.nodup_nil,fun a h=>by cases h⟩⟩,fun b o e=>x.keep b o (by simp) (by simp [yp]) e,rfl,hgens⟩
end Mine
end
theorem PySem.Challenge.cw_qd0045_01_holds : PySem.Challenge.rw_qd0045_01.Holds :=
  PySem.W.holds_law Mine.Wl.zhZ fun said => Mine.Hd.zqT said Mine.zpS
